import PyProof.Rows.All
import Wide.All
import OpenK.AllK
import Wide.FinOn
import KE.KStateDown
import KE.GoesMore
import KE.GoesZip
import PyProof.EnumMake
import HandS.ForMost
import HandS.ForExc
import HandS.Flow
import HandS.Wide
import HandS.WideMore
import HandS.IsInst
import HandS.SetKeys
import HandS.Style
import HandS.TupLe
import HandS.Zip
import HandS.Defaults
import HandS.Head0
import HandS.Head1
import HandS.Head2
import HandS.HeadEnd
import HandS.HeadHook1
import HandS.HeadHook2
import HandS.Walk
import PyProof.DictMoreH
import HandS.SetFor
import HandS.ExcCtx
import HandS.ExcIs
import HandS.HotCalls
import HandS.Conv
import KE.KDictSum
import KE.KDictCopyH
import HandS.SortOrd
import HandS.DictTup
import HandS.HeadHook4
import HandS.SuiteRaise
import HandS.Nested
import HandS.EndTab
import KE.KeyNested
import KE.KDictKeyed
import KE.Datum
import KE.DatumIndex
import PyProof.WalkInts
import HandS.FStr
import HandS.StrMore
import HandS.Replace
import PySem.Challenge.RW_jumpfield_k84_no_pattern
set_option Elab.async false
set_option linter.all false
set_option maxRecDepth 100000
set_option maxHeartbeats 4000000
/-! ### the frame: facts of the top, defs by their places, calls -/
namespace JF
open PySem PySem.Spec PyProof.Rows L2

/-! ### what the top has left, by facts with numbers -/
/-- the module's tuples of numbers -/
def tb : List (Str × List He.Dv) := []
/-- the module's tuples of tuples of numbers -/
def tb2 : List (Str × List (List Int)) := []
def tup2L (K : PySem.W.Frag) : List (List Int) → List Value → Bool
  | [], [] => true
  | x :: xs, .ref p :: us => (match K.lookup p with
    | some ⟨.type c, _, .seq its _, _⟩ => decide (c = "tuple") && (decide (its.size ≤ sizeLine) && He.relAll (x.map V.int) its.toList)
    | _ => false) && tup2L K xs us
  | _, _ => false
def tup2B (K : PySem.W.Frag) (x : Str) (xs : List (List Int)) : Bool := match K.lookup (He.ga K x) with
  | some ⟨.type c, _, .seq its _, _⟩ => decide (c = "tuple") && (decide (its.size ≤ sizeLine) && tup2L K xs its.toList)
  | _ => false
theorem tup2L_ok {K : PySem.W.Frag} : ∀ {xs : List (List Int)} {us : List Value}, tup2L K xs us = true → ∃ rs : List Addr, Vals (rs.map V.ref) us ∧ rs.length = xs.length ∧ ∀ (i : Nat) (r : Addr) (x : List Int), rs[i]? = some r → xs[i]? = some x → ∀ H : Hp, SqT K H r (x.map V.int)
  | [], [], _ => ⟨[], .nil, rfl, fun i r x h _ => by cases h⟩
  | [], _ :: _, h => by cases h
  | x :: xs, [], h => by cases h
  | x :: xs, u :: us, h => by
    cases u with
    | ref p =>
      obtain ⟨h1, h2⟩ := Bool.and_eq_true_iff.mp (show ((match K.lookup p with
        | some ⟨.type c, _, .seq its _, _⟩ => decide (c = "tuple") && (decide (its.size ≤ sizeLine) && He.relAll (x.map V.int) its.toList)
        | _ => false) && tup2L K xs us) = true from h)
      obtain ⟨rs, v, e, k⟩ := tup2L_ok h2
      refine ⟨p :: rs, .cons rfl v, by rw [List.length_cons, List.length_cons, e], fun i r y hi hy H => ?_⟩
      cases i with
      | succ i => exact k i r y hi hy H
      | zero =>
        cases hi; cases hy
        cases q : K.lookup p with
        | none => rw [q] at h1; cases h1
        | some o =>
          obtain ⟨oc, od, dt, osl⟩ := o
          rw [q] at h1
          cases oc with
          | type c =>
            cases dt with
            | seq its n =>
              obtain ⟨a1, a2⟩ := Bool.and_eq_true_iff.mp (show (decide (c = "tuple") && (decide (its.size ≤ sizeLine) && He.relAll (x.map V.int) its.toList)) = true from h1)
              obtain ⟨a3, a4⟩ := Bool.and_eq_true_iff.mp a2
              exact .inr ⟨_, its, n, q, congrArg Value.type (of_decide_eq_true a1), rfl, of_decide_eq_true a3, He.relAll_ok a4⟩
            | _ => cases h1
          | _ => cases dt <;> cases h1
    | _ => cases h
theorem tup2B_ok {K : PySem.W.Frag} {x : Str} {xs : List (List Int)} (h : tup2B K x xs = true) : ∃ rs : List Addr, (∀ H : Hp, SqT K H (He.ga K x) (rs.map V.ref)) ∧ rs.length = xs.length ∧ ∀ (i : Nat) (r : Addr) (y : List Int), rs[i]? = some r → xs[i]? = some y → ∀ H : Hp, SqT K H r (y.map V.int) := by
  unfold tup2B at h
  cases q : K.lookup (He.ga K x) with
  | none => rw [q] at h; cases h
  | some o =>
    obtain ⟨oc, od, dt, osl⟩ := o
    rw [q] at h
    cases oc with
    | type c =>
      cases dt with
      | seq its n =>
        obtain ⟨a1, a2⟩ := Bool.and_eq_true_iff.mp (show (decide (c = "tuple") && (decide (its.size ≤ sizeLine) && tup2L K xs its.toList)) = true from h)
        obtain ⟨a3, a4⟩ := Bool.and_eq_true_iff.mp a2
        obtain ⟨rs, v, e, k⟩ := tup2L_ok a4
        exact ⟨rs, fun H => .inr ⟨_, its, n, q, congrArg Value.type (of_decide_eq_true a1), rfl, of_decide_eq_true a3, v⟩, e, k⟩
      | _ => cases h
    | _ => cases dt <;> cases h
/-- the module's own exceptions that are raised; how each stands to the classes that are asked for -/
def exN : List Str := ["NoNumber", "TooFar", "NoPattern"]
def exP : List (Str × Sum Str String × Bool) := ([("NoNumber", .inl "NoNumber", true), ("NoNumber", .inl "NoRule", false), ("NoNumber", .inl "Restless", false), ("NoNumber", .inl "NoSquare", false), ("NoNumber", .inl "NoLevel", false), ("NoNumber", .inl "NoState", false), ("NoNumber", .inl "NoBox", false), ("NoNumber", .inl "TooFar", false), ("NoNumber", .inl "TooMany", false), ("NoNumber", .inl "NoSteps", false), ("NoNumber", .inl "NoPattern", false), ("NoNumber", .inl "NoName", false), ("NoNumber", .inl "NoRow", false), ("NoNumber", .inr "ValueError", true), ("NoNumber", .inl "FieldError", true), ("TooFar", .inl "NoNumber", false), ("TooFar", .inl "NoRule", false), ("TooFar", .inl "Restless", false), ("TooFar", .inl "NoSquare", false), ("TooFar", .inl "NoLevel", false), ("TooFar", .inl "NoState", false), ("TooFar", .inl "NoBox", false), ("TooFar", .inl "TooFar", true), ("TooFar", .inl "TooMany", false), ("TooFar", .inl "NoSteps", false), ("TooFar", .inl "NoPattern", false), ("TooFar", .inl "NoName", false), ("TooFar", .inl "NoRow", false), ("TooFar", .inr "ValueError", true), ("TooFar", .inl "FieldError", true)] : List (Str × Sum Str String × Bool)) ++ ([("NoPattern", .inl "NoNumber", false), ("NoPattern", .inl "NoRule", false), ("NoPattern", .inl "Restless", false), ("NoPattern", .inl "NoSquare", false), ("NoPattern", .inl "NoLevel", false), ("NoPattern", .inl "NoState", false), ("NoPattern", .inl "NoBox", false), ("NoPattern", .inl "TooFar", false), ("NoPattern", .inl "TooMany", false), ("NoPattern", .inl "NoSteps", false), ("NoPattern", .inl "NoPattern", true), ("NoPattern", .inl "NoName", false), ("NoPattern", .inl "NoRow", false), ("NoPattern", .inr "ValueError", true), ("NoPattern", .inl "FieldError", true)] : List (Str × Sum Str String × Bool))
def veT : List Value := [.type "ValueError", .type "Exception", .type "BaseException", .type "object"]
def exV (K : PySem.W.Frag) : Sum Str String → Value
  | .inl y => .ref (He.ga K y)
  | .inr t => .type t
def exB1 (K : PySem.W.Frag) (x : Str) : Bool :=
  PySem.W.excIn K (He.ga K x) veT "ValueError.__new__" && PySem.W.keepIn K (.ref (He.ga K x)) && (PySem.W.subIn K (.ref (He.ga K x)) (.type "BaseException") == some true) && (PySem.W.typeIn K (.ref (He.ga K x)) == some (.type "type")) &&
  (PySem.W.findIn K (.ref (He.ga K x)) "__getattribute__" == some (some (.builtin "BaseException.__getattribute__"))) && (PySem.W.findIn K (.ref (He.ga K x)) "__getattr__" == some none) && PySem.W.hasDictIn K (He.ga K x) &&
  (PySem.W.findIn K (.ref (He.ga K x)) "__class__" == some (some (.builtin "object.__class__"))) && (PySem.W.specialIn K (.builtin "object.__class__") "__get__" == some (some (.builtin "getset_descriptor.__get__"))) &&
  (PySem.W.takesIn K (.builtin "object.__class__") == some true) && (PySem.W.mroIn K (He.ga K x) (.type "object") == some true)
def exB2 (K : PySem.W.Frag) (t : Str × Sum Str String × Bool) : Bool :=
  (PySem.W.exmOne K (.ref (He.ga K t.1)) (exV K t.2.1) == some t.2.2) && (PySem.W.kitOne K (.ref (He.ga K t.1)) (exV K t.2.1) == some t.2.2)
/-- the defs in which lambdas are made; their tables of code objects are unlike -/
def tfsP : List (Str × Option Str) := []
def ndB : List Addr → Bool
  | [] => true
  | a :: l => !l.contains a && ndB l
theorem ndB_ok : ∀ {l : List Addr}, ndB l = true → l.Nodup
  | [], _ => List.nodup_nil
  | a :: l, h => by
    obtain ⟨h1, h2⟩ := Bool.and_eq_true_iff.mp (show (!l.contains a && ndB l) = true from h)
    exact List.nodup_cons.mpr ⟨(fun z => by rw [List.contains_iff_mem.mpr z] at h1; cases h1), ndB_ok h2⟩
def tbB (K : PySem.W.Frag) : Bool := (tb.all fun t => He.tupB K t.1 t.2) && (exN.all (exB1 K) && (exP.all (exB2 K) && ((tb2.all fun t => tup2B K t.1 t.2) && ndB (tfsP.map fun p => He.tabOf K (He.codeOf K p)))))
structure Env (fa : List He.Fa) (fn : List He.DefD) (K : PySem.W.Frag) (mg : Str → Option Value) : Prop where
  c : He.SaysD fa fn K
  ex : ∃ h : Heap, K.In h ∧ h.Ns mainGlobals mg
  tb : tbB K = true
section
variable {fa : List He.Fa} {fn : List He.DefD} {K : PySem.W.Frag} {mg : Str → Option Value}
theorem Env.glo (T : Env fa fn K mg) (i : Nat) {x : Str} (h : fa[i]? = some (.glo x) := by rfl) : mg x = some (.ref (He.ga K x)) := by
  obtain ⟨hp, X, G⟩ := T.ex
  exact He.glo_ok X G (T.c.fact i h)
theorem Env.tup (T : Env fa fn K mg) (i : Nat) {x : Str} {vs : List He.Dv} (H : Hp) (h : JF.tb[i]? = some (x, vs) := by rfl) : SqT K H (He.ga K x) (vs.map (He.Dv.v K)) :=
  He.tupB_ok (List.all_eq_true.mp (Bool.and_eq_true_iff.mp T.tb).1 _ (List.mem_of_getElem? h)) H
theorem Env.ex1 (T : Env fa fn K mg) {x : Str} (h : x ∈ JF.exN) : exB1 K x = true := List.all_eq_true.mp (Bool.and_eq_true_iff.mp (Bool.and_eq_true_iff.mp T.tb).2).1 _ h
theorem Env.ex2 (T : Env fa fn K mg) {t : Str × Sum Str String × Bool} (h : t ∈ JF.exP) : exB2 K t = true := List.all_eq_true.mp (Bool.and_eq_true_iff.mp (Bool.and_eq_true_iff.mp (Bool.and_eq_true_iff.mp T.tb).2).2).1 _ h
theorem Env.tup2 (T : Env fa fn K mg) (i : Nat) {x : Str} {xs : List (List Int)} (h : JF.tb2[i]? = some (x, xs) := by rfl) : ∃ rs : List Addr, (∀ H : Hp, SqT K H (He.ga K x) (rs.map V.ref)) ∧ rs.length = xs.length ∧ ∀ (i : Nat) (r : Addr) (y : List Int), rs[i]? = some r → xs[i]? = some y → ∀ H : Hp, SqT K H r (y.map V.int) :=
  tup2B_ok (List.all_eq_true.mp (Bool.and_eq_true_iff.mp (Bool.and_eq_true_iff.mp (Bool.and_eq_true_iff.mp (Bool.and_eq_true_iff.mp T.tb).2).2).2).1 _ (List.mem_of_getElem? h))
theorem Env.tnd (T : Env fa fn K mg) : (JF.tfsP.map fun p => He.tabOf K (He.codeOf K p)).Nodup := ndB_ok (Bool.and_eq_true_iff.mp (Bool.and_eq_true_iff.mp (Bool.and_eq_true_iff.mp (Bool.and_eq_true_iff.mp T.tb).2).2).2).2
theorem Env.free (T : Env fa fn K mg) (i : Nat) {x : Str} (h : fa[i]? = some (.free x) := by rfl) : mg x = none := by
  obtain ⟨hp, X, G⟩ := T.ex
  exact He.free_ok X G (T.c.fact i h)
theorem Env.int (T : Env fa fn K mg) (i : Nat) {x : Str} {n : Int} (h : fa[i]? = some (.int x n) := by rfl) : ∃ t, mg x = some (.int n t) := by
  obtain ⟨hp, X, G⟩ := T.ex
  exact He.int_ok X G (T.c.fact i h)
theorem Env.str (T : Env fa fn K mg) (i : Nat) {x z : Str} (h : fa[i]? = some (.str x z) := by rfl) : ∃ t, mg x = some (.str z t) := by
  obtain ⟨hp, X, G⟩ := T.ex
  exact He.str_ok X G (T.c.fact i h)
theorem Env.cls (T : Env fa fn K mg) (i : Nat) {x : Str} (h : fa[i]? = some (.cls x) := by rfl) : Cls K (He.ga K x) := He.cls_ok (T.c.fact i h)
theorem Env.noat (T : Env fa fn K mg) (i : Nat) {x f : Str} (h : fa[i]? = some (.noat x f) := by rfl) : NoAttr K (He.ga K x) f := He.noat_ok (T.c.fact i h)
theorem Env.meth (T : Env fa fn K mg) (i : Nat) {x m : Str} (h : fa[i]? = some (.meth x m) := by rfl) : Meth K (He.ga K x) m (He.ma K (He.ga K x) m) := He.meth_ok (T.c.fact i h)
theorem Env.mkr (T : Env fa fn K mg) (i : Nat) {x : Str} (h : fa[i]? = some (.mkr x) := by rfl) : Mk K (He.ga K x) (He.ma K (He.ga K x) "__init__") := He.mkr_ok (T.c.fact i h)
end

/-! ### a def that keeps its promise, by its place -/
/-- the def's datum stands there -/
def FdAt (K : PySem.W.Frag) (p : Str × Option Str) (fd : FuncData) : Prop := ∃ oc od osl, K.lookup (He.fAd K p) = some ⟨oc, od, .func fd, osl⟩
theorem FdAt.eq {K : PySem.W.Frag} {p : Str × Option Str} {fd fd' : FuncData} (h : FdAt K p fd) (h' : FdAt K p fd') : fd = fd' := by
  obtain ⟨a, b, c, e⟩ := h
  obtain ⟨a', b', c', e'⟩ := h'
  rw [e] at e'
  cases e'
  rfl
theorem fdAt_of {K : PySem.W.Frag} {x qual : Str} {params : Arguments} {body : List Stmt} {scope : Scope} {dvs : List V} {kws : List (Str × V)} {p : Str × Option Str} {fd : FuncData} (F : FunD K x qual params body scope dvs kws (He.fAd K p) fd) : FdAt K p fd := by
  obtain ⟨oc, od, dV, kV, doc, pm, an, cdv, ct, osl, e, lk, hcd, _, _⟩ := F.ex
  exact ⟨oc, od, osl, lk⟩
def Good (P : Program) (w : World) (K : PySem.W.Frag) (mg : Str → Option Value) (base : Heap) (CX : CXT) (k : Nat) (p : Str × Option Str) (ps : List Str) (sp : Sp) : Prop :=
  ∃ fd, FnOk P w K mg base CX k (He.fAd K p) fd ps sp ∧ Binds K fd ps [] ∧ PySem.W.keepIn K (.ref (He.fAd K p)) = true ∧ FdAt K p fd
section
variable {P : Program} {w : World} {K : PySem.W.Frag} {mg : Str → Option Value} {base : Heap} {fa : List He.Fa} {fn : List He.DefD}
theorem Good.mono {CX : CXT} {j k : Nat} {p : Str × Option Str} {ps : List Str} {sp : Sp} (G : Good P w K mg base CX j p ps sp) (h : j ≤ k) : Good P w K mg base CX k p ps sp := by
  obtain ⟨fd, F, b, kp, lk⟩ := G
  exact ⟨fd, F.mono h, b, kp, lk⟩
theorem Good.imp {CX : CXT} {k : Nat} {p : Str × Option Str} {ps : List Str} {sp sp' : Sp} (G : Good P w K mg base CX k p ps sp) (h : ∀ vs H Q E, sp' vs H Q E → sp vs H Q E) : Good P w K mg base CX k p ps sp' := by
  obtain ⟨fd, F, b, kp, lk⟩ := G
  exact ⟨fd, F.imp h, b, kp, lk⟩
/-- THE RULE of a def: nothing leaves it but by return -/
theorem good_mk (T : Env fa fn K mg) (i : Nat) {d : He.DefD} {k : Nat} {N ps : List Str} {sp : Sp} {x qual : Str} {st : Stmt} {at_ : Str × Option Str} (hi : fn[i]? = some d) (hd : d = ⟨at_, x, qual, defArgs st, defBody st, defScope st, [], []⟩) (S : FnScope N ps (defScope st))
    (hb : ∀ (kV doc pm : Value) (an : Option Addr) (cdv ct : Value) (us : List Value), us.length = ps.length → bindArgs (PySem.W.fnOf x qual (defArgs st) (defBody st) (defScope st) .none kV doc pm an cdv ct) ⟨us, []⟩ = pure (ps.zip us))
    (len : ∀ vs H Q E, sp vs H Q E → vs.length = ps.length)
    (hbody : ∀ (f : Addr) (cdv : Value) (A : Around) (outer : List PySem.Env) (s : Shared) (H : Hp) (vs : List V) (Q : VK) (E : XK), Room k (A.deeper (envOfC qual (defScope st) s.heap.objs.size f cdv)) → sp vs H Q E →
      ∃ t, PSs (cxOf CX0 P w K mg base N qual (defScope st) f cdv A outer s H E).nox (defBody st) t ∧ t { nx := fun _ H' => Q .non H', rt := Q } (start N vs) H) : Good P w K mg base CX0 (k + 1) at_ ps sp := by
  subst hd
  obtain ⟨fd, F⟩ := T.c.def_ i hi
  refine ⟨fd, ?_, FunD.bindsN F hb, F.kp, fdAt_of F⟩
  refine FunD.ok F S len fun cdv A outer s H vs Q E hr h => ?_
  obtain ⟨t, h1, h2⟩ := hbody _ cdv A outer s H vs Q E hr h
  exact ⟨t, h1.nox, h2⟩
end

/-! ### calls -/
section
variable {X : Cx} {k : Nat} {x m : Str} {ps : List Str} {sp : Sp} {p pos apos : Pos} {e o : Expr} {es : List Expr} {ta : TE} {t : TA} {C : Addr}
theorem pe_cg (G : Good X.prog X.w X.K X.mg X.base CX0 k (x, none) ps sp) (hr : Room k X.A) (hm : X.mg x = some (.ref (He.ga X.K x))) (ha : PA X (e :: es) t) (hg : Gl X x := by rfl)
    (hdb : (x == ("__debug__" : Str)) = false := by decide) (he : starEach (e :: es) X.env = (false, eval e X.env) :: starEach es X.env := by rfl) (hpl : (backTo pos (starEach es X.env)).any (·.1) = false := by rfl) :
    PE X (.Call (.Name x p) (e :: es) [] pos) (tCall sp [] E0 t) := by
  obtain ⟨fd, F, b, kp, lk⟩ := G
  exact pe_call F hr hg hm kp b .nil pass0 ha hdb he hpl
theorem pe_cg0 (G : Good X.prog X.w X.K X.mg X.base CX0 k (x, none) ps sp) (hr : Room k X.A) (hm : X.mg x = some (.ref (He.ga X.K x))) (hg : Gl X x := by rfl) (hdb : (x == ("__debug__" : Str)) = false := by decide) :
    PE X (.Call (.Name x p) [] [] pos) (tCall sp [] E0 tNil) := by
  obtain ⟨fd, F, b, kp, lk⟩ := G
  exact pe_call0 F hr hg hm kp b .nil pass0 hdb
theorem pe_mg {cn : Str} {pl : Sem Bool} (he : PE X o ta) (c : Cls X.K (He.ga X.K cn)) (hm : Meth X.K (He.ga X.K cn) m (He.ma X.K (He.ga X.K cn) m)) (G : Good X.prog X.w X.K X.mg X.base CX0 k (cn, some m) ps sp) (hr : Room k X.A) (ha : PA X (e :: es) t)
    (hst : starEach (e :: es) X.env = (false, eval e X.env) :: starEach es X.env := by rfl) (hpl : (backTo pos (starEach es X.env)).any (·.1) = false := by rfl)
    (ht : eval (.Call (.Attribute o m apos) (e :: es) [] pos) X.env = (do
      let ov ← eval o X.env
      standAt apos.atName
      let (f, first) ← holding [ov] (getMethod ov m pl)
      callWith pos f first (backTo pos (starEach (e :: es) X.env)) (backToKw pos (keywordEach [] X.env))) := by rfl) :
    PE X (.Call (.Attribute o m apos) (e :: es) [] pos) (tMeth (He.ga X.K cn) m sp [] E0 ta t) := by
  obtain ⟨fd, F, b, kp, lk⟩ := G
  exact pe_meth he c hm F hr b .nil pass0 ha hst hpl ht
theorem pe_mg0 {cn : Str} {pl : Sem Bool} (he : PE X o ta) (c : Cls X.K (He.ga X.K cn)) (hm : Meth X.K (He.ga X.K cn) m (He.ma X.K (He.ga X.K cn) m)) (G : Good X.prog X.w X.K X.mg X.base CX0 k (cn, some m) ps sp) (hr : Room k X.A)
    (ht : eval (.Call (.Attribute o m apos) [] [] pos) X.env = (do
      let ov ← eval o X.env
      standAt apos.atName
      let (f, first) ← holding [ov] (getMethod ov m pl)
      callWith pos f first (backTo pos (starEach [] X.env)) (backToKw pos (keywordEach [] X.env))) := by rfl) :
    PE X (.Call (.Attribute o m apos) [] [] pos) (tMeth (He.ga X.K cn) m sp [] E0 ta tNil) := by
  obtain ⟨fd, F, b, kp, lk⟩ := G
  exact pe_meth0 he c hm F hr b .nil pass0 ht
theorem pe_mk0 (M : Mk X.K (He.ga X.K x) (He.ma X.K (He.ga X.K x) "__init__")) (G : Good X.prog X.w X.K X.mg X.base CX0 k (x, some "__init__") ps sp) (hr : Room (k + 1) X.A) (hm : X.mg x = some (.ref (He.ga X.K x))) (hg : Gl X x := by rfl)
    (hdb : (x == ("__debug__" : Str)) = false := by decide) : PE X (.Call (.Name x p) [] [] pos) (tMake (He.ga X.K x) sp [] E0 tNil) := by
  obtain ⟨fd, F, b, kp, lk⟩ := G
  exact pe_make0 M F hr hg hm b .nil pass0 hdb
theorem pe_gint {i : Int} (h : ∃ t, X.mg x = some (.int i t)) (hg : Gl X x) (hd : (x == ("__debug__" : Str)) = false := by decide) : PE X (.Name x pos) (tC (.int i)) := by
  obtain ⟨t, e⟩ := h
  exact pe_glob hg e ⟨_, rfl⟩ hd
theorem pe_gstr {z : Str} (h : ∃ t, X.mg x = some (.str z t)) (hg : Gl X x) (hd : (x == ("__debug__" : Str)) = false := by decide) : PE X (.Name x pos) (tC (.str z)) := by
  obtain ⟨t, e⟩ := h
  exact pe_glob hg e ⟨_, rfl⟩ hd
theorem pe_gref (h : X.mg x = some (.ref (He.ga X.K x))) (hg : Gl X x) (hd : (x == ("__debug__" : Str)) = false := by decide) : PE X (.Name x pos) (tC (.ref (He.ga X.K x))) :=
  pe_glob hg h rfl hd
theorem pe_mk0K (K : PySem.W.Frag) (hK : X.K = K) (M : Mk K (He.ga K x) (He.ma K (He.ga K x) "__init__")) (G : Good X.prog X.w K X.mg X.base CX0 k (x, some "__init__") ps sp) (hr : Room (k + 1) X.A) (hm : X.mg x = some (.ref (He.ga K x))) (hg : Gl X x := by rfl)
    (hdb : (x == ("__debug__" : Str)) = false := by decide) : PE X (.Call (.Name x p) [] [] pos) (tMake (He.ga K x) sp [] E0 tNil) := by subst hK; exact pe_mk0 M G hr hm hg hdb
theorem pe_mkgK (K : PySem.W.Frag) (hK : X.K = K) (M : Mk K (He.ga K x) (He.ma K (He.ga K x) "__init__")) (G : Good X.prog X.w K X.mg X.base CX0 k (x, some "__init__") ps sp) (hr : Room (k + 1) X.A) (hm : X.mg x = some (.ref (He.ga K x))) (ha : PA X (e :: es) t) (hg : Gl X x := by rfl)
    (hdb : (x == ("__debug__" : Str)) = false := by decide) (hst : starEach (e :: es) X.env = (false, eval e X.env) :: starEach es X.env := by rfl) (hpl : (backTo pos (starEach es X.env)).any (·.1) = false := by rfl) : PE X (.Call (.Name x p) (e :: es) [] pos) (tMake (He.ga K x) sp [] E0 t) := by
  subst hK
  obtain ⟨fd, F, b, kp, lk⟩ := G
  exact pe_make M F hr hg hm b .nil pass0 ha hdb hst hpl
/-- one of two readings -/
theorem pe_or {t1 t2 : TE} (h1 : PE X e t1) (h2 : PE X e t2) : PE X e (fun σ H Q => t1 σ H Q ∨ t2 σ H Q) := ⟨fun pins s σ H Q I h => h.elim (h1.run pins s σ H Q I) (h2.run pins s σ H Q I)⟩
/-! the written part said outright (in a comprehension's block it is another word for the same) -/
variable {K : PySem.W.Frag} {f : Str} {a b i : Expr} {tb : TE}
theorem pe_fldK (K : PySem.W.Frag) (hK : X.K = K) (he : PE X e ta) (hb : attributeBase e f X.env (eval e X.env) = eval e X.env) : PE X (.Attribute e f pos) (tFld K ta f) := by subst hK; exact pe_fld he hb
theorem ix_listK (K : PySem.W.Frag) (hK : X.K = K) : IxR X (rIxL K) := by subst hK; exact ix_list
theorem ix_tupK (K : PySem.W.Frag) (hK : X.K = K) : IxR X (rIxT K) := by subst hK; exact ix_tup
theorem sl_listK (K : PySem.W.Frag) (hK : X.K = K) : SlR X (rSlL K) := by subst hK; exact sl_list
theorem sl_tupK (K : PySem.W.Frag) (hK : X.K = K) : SlR X (rSlT K) := by subst hK; exact sl_tup
theorem op_inK (K : PySem.W.Frag) (hK : X.K = K) : OpR X (compareOp .In) (rIn K false) := by subst hK; exact op_in_seq
theorem op_notInK (K : PySem.W.Frag) (hK : X.K = K) : OpR X (compareOp .NotIn) (rIn K true) := by subst hK; exact op_notIn_seq
theorem op_eqDK (K : PySem.W.Frag) (hK : X.K = K) (hu : X.A.units + 64 < cLine) : OpR X (compareOp .Eq) (rEqD K) := by subst hK; exact op_eqD hu
theorem op_neDK (K : PySem.W.Frag) (hK : X.K = K) (hu : X.A.units + 64 < cLine) : OpR X (compareOp .NotEq) (rNeD K) := by subst hK; exact op_neD hu
theorem op_catTK (K : PySem.W.Frag) (hK : X.K = K) : OpR X (binaryOp .Add) (rCatT K) := by subst hK; exact op_catT
theorem call_isiK (K : PySem.W.Frag) (hK : X.K = K) : CallR X (.builtin "isinstance") (rIsi K) := by subst hK; exact call_isi
def rLenS (K : PySem.W.Frag) : List V → Hp → VK → Prop := fun xs H Q => ∃ p ys, xs = [.ref p] ∧ (SqL K H p ys ∨ SqT K H p ys) ∧ Q (.int ys.length) H
theorem call_lenK (K : PySem.W.Frag) (hK : X.K = K) : CallR X (.builtin "len") (rLenS K) := by subst hK; exact call_len_seq
def rListOf (K : PySem.W.Frag) : List V → Hp → VK → Prop := fun xs H Q => ∃ p ys, xs = [.ref p] ∧ (SqL K H p ys ∨ SqT K H p ys) ∧ ∀ l, H l = none → Q (.ref l) (upd H l (.lst ys))
theorem call_listK (K : PySem.W.Frag) (hK : X.K = K) : CallR X (.type "list") (rListOf K) := by subst hK; exact call_list_of
theorem cr_sumK (K : PySem.W.Frag) (hK : X.K = K) (hc : X.calm = true) : CallR X (.builtin "sum") (rSum K) := by subst hK; exact cr_sum hc
theorem cr_maxK (K : PySem.W.Frag) (hK : X.K = K) (hc : X.calm = true) : CallR X (.builtin "max") (rMax K) := by subst hK; exact cr_max hc
theorem cr_minK (K : PySem.W.Frag) (hK : X.K = K) (hc : X.calm = true) : CallR X (.builtin "min") (rMin K) := by subst hK; exact cr_min hc
theorem pi_listK (K : PySem.W.Frag) (hK : X.K = K) {tg l : Expr} {tl : TE} (hl : PE X l tl) : PI X tg l (iList K tl) := by subst hK; exact pi_list hl
theorem pi_tupK (K : PySem.W.Frag) (hK : X.K = K) {tg l : Expr} {tl : TE} (hl : PE X l tl) : PI X tg l (iTup K tl) := by subst hK; exact pi_tup hl
theorem pe_mgK (K : PySem.W.Frag) (hK : X.K = K) {cn : Str} {pl : Sem Bool} (he : PE X o ta) (c : Cls K (He.ga K cn)) (hm : Meth K (He.ga K cn) m (He.ma K (He.ga K cn) m)) (G : Good X.prog X.w K X.mg X.base CX0 k (cn, some m) ps sp) (hr : Room k X.A) (ha : PA X (e :: es) t)
    (hst : starEach (e :: es) X.env = (false, eval e X.env) :: starEach es X.env := by rfl) (hpl : (backTo pos (starEach es X.env)).any (·.1) = false := by rfl)
    (ht : eval (.Call (.Attribute o m apos) (e :: es) [] pos) X.env = (do
      let ov ← eval o X.env
      standAt apos.atName
      let (f, first) ← holding [ov] (getMethod ov m pl)
      callWith pos f first (backTo pos (starEach (e :: es) X.env)) (backToKw pos (keywordEach [] X.env))) := by rfl) :
    PE X (.Call (.Attribute o m apos) (e :: es) [] pos) (tMeth (He.ga K cn) m sp [] E0 ta t) := by subst hK; exact pe_mg he c hm G hr ha hst hpl ht
theorem pe_mg0K (K : PySem.W.Frag) (hK : X.K = K) {cn : Str} {pl : Sem Bool} (he : PE X o ta) (c : Cls K (He.ga K cn)) (hm : Meth K (He.ga K cn) m (He.ma K (He.ga K cn) m)) (G : Good X.prog X.w K X.mg X.base CX0 k (cn, some m) ps sp) (hr : Room k X.A)
    (ht : eval (.Call (.Attribute o m apos) [] [] pos) X.env = (do
      let ov ← eval o X.env
      standAt apos.atName
      let (f, first) ← holding [ov] (getMethod ov m pl)
      callWith pos f first (backTo pos (starEach [] X.env)) (backToKw pos (keywordEach [] X.env))) := by rfl) :
    PE X (.Call (.Attribute o m apos) [] [] pos) (tMeth (He.ga K cn) m sp [] E0 ta tNil) := by subst hK; exact pe_mg0 he c hm G hr ht
theorem pe_cgK (K : PySem.W.Frag) (hK : X.K = K) (G : Good X.prog X.w K X.mg X.base CX0 k (x, none) ps sp) (hr : Room k X.A) (hm : X.mg x = some (.ref (He.ga K x))) (ha : PA X (e :: es) t) (hg : Gl X x := by rfl)
    (hdb : (x == ("__debug__" : Str)) = false := by decide) (he : starEach (e :: es) X.env = (false, eval e X.env) :: starEach es X.env := by rfl) (hpl : (backTo pos (starEach es X.env)).any (·.1) = false := by rfl) :
    PE X (.Call (.Name x p) (e :: es) [] pos) (tCall sp [] E0 t) := by subst hK; exact pe_cg G hr hm ha hg hdb he hpl
theorem pe_grefK (K : PySem.W.Frag) (hK : X.K = K) (h : X.mg x = some (.ref (He.ga K x))) (hg : Gl X x) (hd : (x == ("__debug__" : Str)) = false := by decide) : PE X (.Name x pos) (tC (.ref (He.ga K x))) := by subst hK; exact pe_gref h hg hd
end
end JF

/-! ### squares as trees: the mathematics of a grove, no program in sight -/
namespace JF
open PySem PySem.Spec PyProof.Rows L2

inductive Sq where
  | leaf (s : Int)
  | node (a b c d : Sq)
  deriving DecidableEq
abbrev Box := Int × Int × Int × Int
def rb : Option Box → Box → Box
  | none, o => o
  | some b, o => (min b.1 o.1, min b.2.1 o.2.1, max (b.1 + b.2.2.1) (o.1 + o.2.2.1) - min b.1 o.1, max (b.2.1 + b.2.2.2) (o.2.1 + o.2.2.2) - min b.2.1 o.2.1)
def r4step (half : Int) (at_ : Int) (f : Option Box) : Option Box → Option Box
  | none => f
  | some b => some (rb f (b.1 + half * (at_ % 2), b.2.1 + half * (at_ / 2), b.2.2.1, b.2.2.2))
def r4 (half : Int) (a b c d : Option Box) : Option Box := r4step half 3 (r4step half 2 (r4step half 1 (r4step half 0 none a) b) c) d
namespace Sq
def level : Sq → Nat
  | leaf _ => 0
  | node a _ _ _ => a.level + 1
def lives : Sq → Int
  | leaf s => if s = 0 then 0 else 1
  | node a b c d => a.lives + b.lives + c.lives + d.lives
def span : Sq → Option Box
  | leaf s => if s = 0 then none else some (0, 0, 1, 1)
  | node a b c d => r4 (2 ^ a.level : Int) a.span b.span c.span d.span
def wf : Sq → Prop
  | leaf s => 0 ≤ s ∧ s ≤ 7
  | node a b c d => a.wf ∧ b.wf ∧ c.wf ∧ d.wf ∧ b.level = a.level ∧ c.level = a.level ∧ d.level = a.level
def even : Nat → Int → Sq
  | 0, s => leaf s
  | k + 1, s => node (even k s) (even k s) (even k s) (even k s)
theorem level_even (k : Nat) (s : Int) : (even k s).level = k := by
  induction k with
  | zero => rfl
  | succ k ih => show (even k s).level + 1 = k + 1; rw [ih]
theorem wf_even {s : Int} (h0 : 0 ≤ s) (h1 : s ≤ 7) (k : Nat) : (even k s).wf := by
  induction k with
  | zero => exact ⟨h0, h1⟩
  | succ k ih => exact ⟨ih, ih, ih, ih, rfl, rfl, rfl⟩
theorem lives_nonneg : ∀ S : Sq, 0 ≤ S.lives
  | leaf s => by unfold lives; split <;> omega
  | node a b c d => by
    have h1 := lives_nonneg a; have h2 := lives_nonneg b; have h3 := lives_nonneg c; have h4 := lives_nonneg d
    unfold lives; omega
end Sq

/-! ### the dict of a grove: what was made, by numbers -/
def kvsOf : List (List Int) → Nat → List (List Key × V)
  | [], _ => []
  | m :: r, i => (m.map Sum.inl, V.int (i : Int)) :: kvsOf r (i + 1)
def lookI : List (List Int) → List Int → Nat → Option Nat
  | [], _, _ => none
  | m :: r, k, i => if m = k then some i else lookI r k (i + 1)
theorem inl_inj : ∀ {a b : List Int}, a.map (Sum.inl : Int → Key) = b.map Sum.inl → a = b
  | [], [], _ => rfl
  | [], _ :: _, h => by cases h
  | _ :: _, [], h => by cases h
  | x :: a, y :: b, h => by
    simp only [List.map_cons, List.cons.injEq, Sum.inl.injEq] at h
    rw [h.1, inl_inj h.2]
theorem kvsOf_len : ∀ (mk : List (List Int)) (i : Nat), (kvsOf mk i).length = mk.length
  | [], _ => rfl
  | _ :: r, i => by show (kvsOf r (i + 1)).length + 1 = r.length + 1; rw [kvsOf_len r]
theorem kvsOf_app : ∀ (mk : List (List Int)) (m : List Int) (i : Nat), kvsOf (mk ++ [m]) i = kvsOf mk i ++ [(m.map Sum.inl, V.int ((i + mk.length : Nat) : Int))]
  | [], m, i => rfl
  | x :: r, m, i => by
    show _ :: kvsOf (r ++ [m]) (i + 1) = _ :: (kvsOf r (i + 1) ++ _)
    rw [kvsOf_app r m (i + 1)]
    have e : i + 1 + r.length = i + (x :: r).length := by simp; omega
    rw [e]
theorem valV_kvsOf : ∀ (mk : List (List Int)) (k : List Int) (i : Nat), valV (kvsOf mk i) (k.map Sum.inl) = (lookI mk k i).map fun n : Nat => V.int (n : Int)
  | [], _, _ => rfl
  | m :: r, k, i => by
    by_cases h : m = k
    · subst h
      simp [kvsOf, lookI, valV]
    · have h' : ¬ (m.map (Sum.inl : Int → Key) = k.map Sum.inl) := fun e => h (inl_inj e)
      have ih := valV_kvsOf r k (i + 1)
      simp only [kvsOf, lookI, valV, List.find?_cons, h, h', decide_false, if_false] at ih ⊢
      exact ih
theorem lookI_some : ∀ {mk : List (List Int)} {k : List Int} {i n : Nat}, lookI mk k i = some n → i ≤ n ∧ mk[n - i]? = some k
  | [], _, _, _, h => by cases h
  | m :: r, k, i, n, h => by
    by_cases e : m = k
    · simp only [lookI, e, if_true, Option.some.injEq] at h
      subst h
      simp [e]
    · simp only [lookI, e, if_false] at h
      obtain ⟨h1, h2⟩ := lookI_some h
      refine ⟨by omega, ?_⟩
      have e2 : n - i = (n - (i + 1)) + 1 := by omega
      rw [e2, List.getElem?_cons_succ]
      exact h2
theorem lookI_none : ∀ {mk : List (List Int)} {k : List Int} {i : Nat}, lookI mk k i = none → k ∉ mk
  | [], _, _, _ => by simp
  | m :: r, k, i, h => by
    by_cases e : m = k
    · simp [lookI, e] at h
    · simp only [lookI, e, if_false] at h
      have := lookI_none h
      simp only [List.mem_cons, not_or]
      exact ⟨fun z => e z.symm, this⟩

/-- what a square is made of, by the numbers of its quarters -/
def Made (q : List Sq) : Sq → List Int → Prop
  | .leaf s, m => m = [s]
  | .node A B C D, m => ∃ a b c d : Nat, m = [(a : Int), (b : Int), (c : Int), (d : Int)] ∧ q[a]? = some A ∧ q[b]? = some B ∧ q[c]? = some C ∧ q[d]? = some D
theorem getElem?_app {α : Type} {q : List α} {i : Nat} {x : α} (h : q[i]? = some x) (t : List α) : (q ++ t)[i]? = some x := by
  rw [List.getElem?_append_left (List.getElem?_eq_some_iff.mp h).1]
  exact h
theorem Made.app {q : List Sq} {S : Sq} {m : List Int} (h : Made q S m) (t : List Sq) : Made (q ++ t) S m := by
  cases S with
  | leaf s => exact h
  | node A B C D =>
    obtain ⟨a, b, c, d, e, h1, h2, h3, h4⟩ := h
    exact ⟨a, b, c, d, e, getElem?_app h1 t, getElem?_app h2 t, getElem?_app h3 t, getElem?_app h4 t⟩
theorem nodup_at {q : List Sq} (hq : q.Nodup) {i j : Nat} {S : Sq} (a : q[i]? = some S) (b : q[j]? = some S) : i = j := by
  obtain ⟨h1, e1⟩ := List.getElem?_eq_some_iff.mp a
  obtain ⟨h2, e2⟩ := List.getElem?_eq_some_iff.mp b
  exact (List.getElem_inj hq).mp (e1.trans e2.symm)
theorem made_inj {q : List Sq} (hq : q.Nodup) {S : Sq} {m m' : List Int} (a : Made q S m) (b : Made q S m') : m = m' := by
  cases S with
  | leaf s => exact (show m = [s] from a).trans (show m' = [s] from b).symm
  | node A B C D =>
    obtain ⟨a1, b1, c1, d1, rfl, h1, h2, h3, h4⟩ := a
    obtain ⟨a2, b2, c2, d2, rfl, k1, k2, k3, k4⟩ := b
    rw [nodup_at hq h1 k1, nodup_at hq h2 k2, nodup_at hq h3 k3, nodup_at hq h4 k4]
theorem made_same {q : List Sq} {S S' : Sq} {m : List Int} (a : Made q S m) (b : Made q S' m) : S = S' := by
  cases S with
  | leaf s =>
    cases S' with
    | leaf s' =>
      have e : [s] = [s'] := (show m = [s] from a).symm.trans (show m = [s'] from b)
      simp only [List.cons.injEq, and_true] at e
      rw [e]
    | node A B C D =>
      obtain ⟨a2, b2, c2, d2, e, _⟩ := b
      have e1 : m = [s] := a
      rw [e1] at e
      simp at e
  | node A B C D =>
    obtain ⟨a1, b1, c1, d1, e1, h1, h2, h3, h4⟩ := a
    cases S' with
    | leaf s' =>
      have e2 : m = [s'] := b
      rw [e1] at e2
      simp at e2
    | node A' B' C' D' =>
      obtain ⟨a2, b2, c2, d2, e2, k1, k2, k3, k4⟩ := b
      rw [e1] at e2
      simp only [List.cons.injEq, Int.ofNat_inj, and_true] at e2
      obtain ⟨rfl, rfl, rfl, rfl⟩ := e2
      rw [h1] at k1; rw [h2] at k2; rw [h3] at k3; rw [h4] at k4
      cases k1; cases k2; cases k3; cases k4
      rfl
end JF

namespace JF
open PySem PySem.Spec PyProof.Rows L2
def top (i : Nat) : Stmt := PySem.Challenge.pw_jumpfield_k84_no_pattern.main.body.getD i (.Pass ⟨0, 0, 0, 0⟩)
abbrev st_is_whole : Stmt := top 18
theorem sc_is_whole : FnScope ["thing"] ["thing"] (defScope st_is_whole) := ⟨rfl, rfl, rfl, by decide +kernel, rfl, by decide +kernel, by decide +kernel⟩
def d_is_whole : He.DefD := ⟨("is_whole", none), "is_whole", "is_whole", defArgs (top 18), defBody (top 18), defScope (top 18), [], []⟩
abbrev st_read_whole : Stmt := top 19
theorem sc_read_whole : FnScope ["text", "figures", "sign"] ["text"] (defScope st_read_whole) := ⟨rfl, rfl, rfl, by decide +kernel, rfl, by decide +kernel, by decide +kernel⟩
def d_read_whole : He.DefD := ⟨("read_whole", none), "read_whole", "read_whole", defArgs (top 19), defBody (top 19), defScope (top 19), [], []⟩
abbrev st_round_both : Stmt := top 23
theorem sc_round_both : FnScope ["one", "other", "left", "top", "right", "low"] ["one", "other"] (defScope st_round_both) := ⟨rfl, rfl, rfl, by decide +kernel, rfl, by decide +kernel, by decide +kernel⟩
def d_round_both : He.DefD := ⟨("round_both", none), "round_both", "round_both", defArgs (top 23), defBody (top 23), defScope (top 23), [], []⟩
abbrev st_round_four : Stmt := top 24
theorem sc_round_four : FnScope ["spans", "half", "found", "at", "span", "left", "top"] ["spans", "half"] (defScope st_round_four) := ⟨rfl, rfl, rfl, by decide +kernel, rfl, by decide +kernel, by decide +kernel⟩
def d_round_four : He.DefD := ⟨("round_four", none), "round_four", "round_four", defArgs (top 24), defBody (top 24), defScope (top 24), [], []⟩
abbrev st_is_state : Stmt := top 25
theorem sc_is_state : FnScope ["thing"] ["thing"] (defScope st_is_state) := ⟨rfl, rfl, rfl, by decide +kernel, rfl, by decide +kernel, by decide +kernel⟩
def d_is_state : He.DefD := ⟨("is_state", none), "is_state", "is_state", defArgs (top 25), defBody (top 25), defScope (top 25), [], []⟩
abbrev st_Grove_init : Stmt := inClass (top 26) 0
theorem sc_Grove_init : FnScope ["self"] ["self"] (defScope st_Grove_init) := ⟨rfl, rfl, rfl, by decide +kernel, rfl, by decide +kernel, by decide +kernel⟩
def d_Grove_init : He.DefD := ⟨("Grove", some "__init__"), "__init__", "Grove.__init__", defArgs (inClass (top 26) 0), defBody (inClass (top 26) 0), defScope (inClass (top 26) 0), [], []⟩
abbrev st_Grove_kept : Stmt := inClass (top 26) 1
theorem sc_Grove_kept : FnScope ["self", "made", "level", "lives", "span", "number"] ["self", "made", "level", "lives", "span"] (defScope st_Grove_kept) := ⟨rfl, rfl, rfl, by decide +kernel, rfl, by decide +kernel, by decide +kernel⟩
def d_Grove_kept : He.DefD := ⟨("Grove", some "kept"), "kept", "Grove.kept", defArgs (inClass (top 26) 1), defBody (inClass (top 26) 1), defScope (inClass (top 26) 1), [], []⟩
abbrev st_Grove_cell : Stmt := inClass (top 26) 2
theorem sc_Grove_cell : FnScope ["self", "state", "made"] ["self", "state"] (defScope st_Grove_cell) := ⟨rfl, rfl, rfl, by decide +kernel, rfl, by decide +kernel, by decide +kernel⟩
def d_Grove_cell : He.DefD := ⟨("Grove", some "cell"), "cell", "Grove.cell", defArgs (inClass (top 26) 2), defBody (inClass (top 26) 2), defScope (inClass (top 26) 2), [], []⟩
abbrev st_Grove_knit : Stmt := inClass (top 26) 3
theorem sc_Grove_knit : FnScope ["self", "a", "b", "c", "d", "made", "level", "lives", "span", "one"] ["self", "a", "b", "c", "d"] (defScope st_Grove_knit) := ⟨rfl, rfl, rfl, by decide +kernel, rfl, by decide +kernel, by decide +kernel⟩
def d_Grove_knit : He.DefD := ⟨("Grove", some "knit"), "knit", "Grove.knit", defArgs (inClass (top 26) 3), defBody (inClass (top 26) 3), defScope (inClass (top 26) 3), [], []⟩
abbrev st_Grove_even : Stmt := inClass (top 26) 4
theorem sc_Grove_even : FnScope ["self", "level", "state", "row", "one"] ["self", "level", "state"] (defScope st_Grove_even) := ⟨rfl, rfl, rfl, by decide +kernel, rfl, by decide +kernel, by decide +kernel⟩
def d_Grove_even : He.DefD := ⟨("Grove", some "even"), "even", "Grove.even", defArgs (inClass (top 26) 4), defBody (inClass (top 26) 4), defScope (inClass (top 26) 4), [], []⟩
abbrev st_Grove_asked : Stmt := inClass (top 26) 5
theorem sc_Grove_asked : FnScope ["self", "square"] ["self", "square"] (defScope st_Grove_asked) := ⟨rfl, rfl, rfl, by decide +kernel, rfl, by decide +kernel, by decide +kernel⟩
def d_Grove_asked : He.DefD := ⟨("Grove", some "asked"), "asked", "Grove.asked", defArgs (inClass (top 26) 5), defBody (inClass (top 26) 5), defScope (inClass (top 26) 5), [], []⟩
abbrev st_Grove_leaf : Stmt := inClass (top 26) 6
theorem sc_Grove_leaf : FnScope ["self", "state"] ["self", "state"] (defScope st_Grove_leaf) := ⟨rfl, rfl, rfl, by decide +kernel, rfl, by decide +kernel, by decide +kernel⟩
def d_Grove_leaf : He.DefD := ⟨("Grove", some "leaf"), "leaf", "Grove.leaf", defArgs (inClass (top 26) 6), defBody (inClass (top 26) 6), defScope (inClass (top 26) 6), [], []⟩
abbrev st_Grove_joined : Stmt := inClass (top 26) 7
theorem sc_Grove_joined : FnScope ["self", "a", "b", "c", "d", "levels", "one"] ["self", "a", "b", "c", "d"] (defScope st_Grove_joined) := ⟨rfl, rfl, rfl, by decide +kernel, rfl, by decide +kernel, by decide +kernel⟩
def d_Grove_joined : He.DefD := ⟨("Grove", some "joined"), "joined", "Grove.joined", defArgs (inClass (top 26) 7), defBody (inClass (top 26) 7), defScope (inClass (top 26) 7), [], []⟩
abbrev st_Grove_solid : Stmt := inClass (top 26) 8
theorem sc_Grove_solid : FnScope ["self", "level", "state"] ["self", "level", "state"] (defScope st_Grove_solid) := ⟨rfl, rfl, rfl, by decide +kernel, rfl, by decide +kernel, by decide +kernel⟩
def d_Grove_solid : He.DefD := ⟨("Grove", some "solid"), "solid", "Grove.solid", defArgs (inClass (top 26) 8), defBody (inClass (top 26) 8), defScope (inClass (top 26) 8), [], []⟩
abbrev st_Grove_level_of : Stmt := inClass (top 26) 9
theorem sc_Grove_level_of : FnScope ["self", "square"] ["self", "square"] (defScope st_Grove_level_of) := ⟨rfl, rfl, rfl, by decide +kernel, rfl, by decide +kernel, by decide +kernel⟩
def d_Grove_level_of : He.DefD := ⟨("Grove", some "level_of"), "level_of", "Grove.level_of", defArgs (inClass (top 26) 9), defBody (inClass (top 26) 9), defScope (inClass (top 26) 9), [], []⟩
abbrev st_Grove_quarters : Stmt := inClass (top 26) 10
theorem sc_Grove_quarters : FnScope ["self", "square"] ["self", "square"] (defScope st_Grove_quarters) := ⟨rfl, rfl, rfl, by decide +kernel, rfl, by decide +kernel, by decide +kernel⟩
def d_Grove_quarters : He.DefD := ⟨("Grove", some "quarters"), "quarters", "Grove.quarters", defArgs (inClass (top 26) 10), defBody (inClass (top 26) 10), defScope (inClass (top 26) 10), [], []⟩
abbrev st_Grove_state_of : Stmt := inClass (top 26) 11
theorem sc_Grove_state_of : FnScope ["self", "square"] ["self", "square"] (defScope st_Grove_state_of) := ⟨rfl, rfl, rfl, by decide +kernel, rfl, by decide +kernel, by decide +kernel⟩
def d_Grove_state_of : He.DefD := ⟨("Grove", some "state_of"), "state_of", "Grove.state_of", defArgs (inClass (top 26) 11), defBody (inClass (top 26) 11), defScope (inClass (top 26) 11), [], []⟩
abbrev st_Grove_living : Stmt := inClass (top 26) 12
theorem sc_Grove_living : FnScope ["self", "square"] ["self", "square"] (defScope st_Grove_living) := ⟨rfl, rfl, rfl, by decide +kernel, rfl, by decide +kernel, by decide +kernel⟩
def d_Grove_living : He.DefD := ⟨("Grove", some "living"), "living", "Grove.living", defArgs (inClass (top 26) 12), defBody (inClass (top 26) 12), defScope (inClass (top 26) 12), [], []⟩
abbrev st_Grove_span : Stmt := inClass (top 26) 13
theorem sc_Grove_span : FnScope ["self", "square"] ["self", "square"] (defScope st_Grove_span) := ⟨rfl, rfl, rfl, by decide +kernel, rfl, by decide +kernel, by decide +kernel⟩
def d_Grove_span : He.DefD := ⟨("Grove", some "span"), "span", "Grove.span", defArgs (inClass (top 26) 13), defBody (inClass (top 26) 13), defScope (inClass (top 26) 13), [], []⟩
abbrev st_meeting : Stmt := top 29
theorem sc_meeting : FnScope ["grove", "a", "b", "c", "d", "one", "two", "three", "four"] ["grove", "a", "b", "c", "d"] (defScope st_meeting) := ⟨rfl, rfl, rfl, by decide +kernel, rfl, by decide +kernel, by decide +kernel⟩
def d_meeting : He.DefD := ⟨("meeting", none), "meeting", "meeting", defArgs (top 29), defBody (top 29), defScope (top 29), [], []⟩
abbrev st_middle_of : Stmt := top 30
theorem sc_middle_of : FnScope ["grove", "square", "four"] ["grove", "square"] (defScope st_middle_of) := ⟨rfl, rfl, rfl, by decide +kernel, rfl, by decide +kernel, by decide +kernel⟩
def d_middle_of : He.DefD := ⟨("middle_of", none), "middle_of", "middle_of", defArgs (top 30), defBody (top 30), defScope (top 30), [], []⟩
abbrev st_widened : Stmt := top 31
theorem sc_widened : FnScope ["grove", "square", "level", "four", "no", "one", "two", "three", "last"] ["grove", "square"] (defScope st_widened) := ⟨rfl, rfl, rfl, by decide +kernel, rfl, by decide +kernel, by decide +kernel⟩
def d_widened : He.DefD := ⟨("widened", none), "widened", "widened", defArgs (top 31), defBody (top 31), defScope (top 31), [], []⟩
abbrev st_trimmed : Stmt := top 32
theorem sc_trimmed : FnScope ["grove", "square", "inner"] ["grove", "square"] (defScope st_trimmed) := ⟨rfl, rfl, rfl, by decide +kernel, rfl, by decide +kernel, by decide +kernel⟩
def d_trimmed : He.DefD := ⟨("trimmed", none), "trimmed", "trimmed", defArgs (top 32), defBody (top 32), defScope (top 32), [], []⟩
abbrev st_clipped : Stmt := top 34
theorem sc_clipped : FnScope ["box", "size", "left", "top", "right", "low"] ["box", "size"] (defScope st_clipped) := ⟨rfl, rfl, rfl, by decide +kernel, rfl, by decide +kernel, by decide +kernel⟩
def d_clipped : He.DefD := ⟨("clipped", none), "clipped", "clipped", defArgs (top 34), defBody (top 34), defScope (top 34), [], []⟩
abbrev st_painted : Stmt := top 35
theorem sc_painted : FnScope ["grove", "square", "box", "inside", "outside", "known", "size", "part", "key", "half", "made", "k", "quarter", "place"] ["grove", "square", "box", "inside", "outside", "known"] (defScope st_painted) := ⟨rfl, rfl, rfl, by decide +kernel, rfl, by decide +kernel, by decide +kernel⟩
def d_painted : He.DefD := ⟨("painted", none), "painted", "painted", defArgs (top 35), defBody (top 35), defScope (top 35), [], []⟩
abbrev st_from_corner : Stmt := top 36
theorem sc_from_corner : FnScope ["grove", "field", "box", "half"] ["grove", "field", "box"] (defScope st_from_corner) := ⟨rfl, rfl, rfl, by decide +kernel, rfl, by decide +kernel, by decide +kernel⟩
def d_from_corner : He.DefD := ⟨("from_corner", none), "from_corner", "from_corner", defArgs (top 36), defBody (top 36), defScope (top 36), [], []⟩
abbrev st_lies_within : Stmt := top 37
theorem sc_lies_within : FnScope ["box", "half"] ["box", "half"] (defScope st_lies_within) := ⟨rfl, rfl, rfl, by decide +kernel, rfl, by decide +kernel, by decide +kernel⟩
def d_lies_within : He.DefD := ⟨("lies_within", none), "lies_within", "lies_within", defArgs (top 37), defBody (top 37), defScope (top 37), [], []⟩
abbrev st_refuse_box : Stmt := top 38
theorem sc_refuse_box : FnScope ["box"] ["box"] (defScope st_refuse_box) := ⟨rfl, rfl, rfl, by decide +kernel, rfl, by decide +kernel, by decide +kernel⟩
def d_refuse_box : He.DefD := ⟨("refuse_box", none), "refuse_box", "refuse_box", defArgs (top 38), defBody (top 38), defScope (top 38), [], []⟩
abbrev st_filled : Stmt := top 39
theorem sc_filled : FnScope ["grove", "field", "box", "state", "empty", "inside", "outside"] ["grove", "field", "box", "state"] (defScope st_filled) := ⟨rfl, rfl, rfl, by decide +kernel, rfl, by decide +kernel, by decide +kernel⟩
def d_filled : He.DefD := ⟨("filled", none), "filled", "filled", defArgs (top 39), defBody (top 39), defScope (top 39), [], []⟩
abbrev st_amount_of : Stmt := top 44
theorem sc_amount_of : FnScope ["figures"] ["figures"] (defScope st_amount_of) := ⟨rfl, rfl, rfl, by decide +kernel, rfl, by decide +kernel, by decide +kernel⟩
def d_amount_of : He.DefD := ⟨("amount_of", none), "amount_of", "amount_of", defArgs (top 44), defBody (top 44), defScope (top 44), [], []⟩
abbrev st_read_runs : Stmt := top 45
theorem sc_read_runs : FnScope ["text", "runs", "begin", "at", "sign"] ["text"] (defScope st_read_runs) := ⟨rfl, rfl, rfl, by decide +kernel, rfl, by decide +kernel, by decide +kernel⟩
def d_read_runs : He.DefD := ⟨("read_runs", none), "read_runs", "read_runs", defArgs (top 45), defBody (top 45), defScope (top 45), [], []⟩
abbrev st_read_end : Stmt := top 48
theorem sc_read_end : FnScope ["text", "found"] ["text"] (defScope st_read_end) := ⟨rfl, rfl, rfl, by decide +kernel, rfl, by decide +kernel, by decide +kernel⟩
def d_read_end : He.DefD := ⟨("read_end", none), "read_end", "read_end", defArgs (top 48), defBody (top 48), defScope (top 48), [], []⟩
abbrev st_Hand_init : Stmt := inClass (top 49) 0
theorem sc_Hand_init : FnScope ["self", "grove", "left", "top"] ["self", "grove", "left", "top"] (defScope st_Hand_init) := ⟨rfl, rfl, rfl, by decide +kernel, rfl, by decide +kernel, by decide +kernel⟩
def d_Hand_init : He.DefD := ⟨("Hand", some "__init__"), "__init__", "Hand.__init__", defArgs (inClass (top 49) 0), defBody (inClass (top 49) 0), defScope (inClass (top 49) 0), [], []⟩
abbrev st_Hand_put : Stmt := inClass (top 49) 1
theorem sc_Hand_put : FnScope ["self", "amount", "sign", "box"] ["self", "amount", "sign"] (defScope st_Hand_put) := ⟨rfl, rfl, rfl, by decide +kernel, rfl, by decide +kernel, by decide +kernel⟩
def d_Hand_put : He.DefD := ⟨("Hand", some "put"), "put", "Hand.put", defArgs (inClass (top 49) 1), defBody (inClass (top 49) 1), defScope (inClass (top 49) 1), [], []⟩
abbrev st_read_pattern : Stmt := top 50
theorem sc_read_pattern : FnScope ["grove", "text", "ends", "colon", "body", "left", "comma", "top", "hand", "amount", "sign"] ["grove", "text"] (defScope st_read_pattern) := ⟨rfl, rfl, rfl, by decide +kernel, rfl, by decide +kernel, by decide +kernel⟩
def d_read_pattern : He.DefD := ⟨("read_pattern", none), "read_pattern", "read_pattern", defArgs (top 50), defBody (top 50), defScope (top 50), [], []⟩
abbrev st_w_at : Stmt := top 52
theorem sc_w_at : FnScope ["_law_script", "_law_k"] ["_law_script", "_law_k"] (defScope st_w_at) := ⟨rfl, rfl, rfl, by decide +kernel, rfl, by decide +kernel, by decide +kernel⟩
def d_w_at : He.DefD := ⟨("_law_at", none), "_law_at", "_law_at", defArgs (top 52), defBody (top 52), defScope (top 52), [], []⟩
abbrev st_w_whole : Stmt := top 53
theorem sc_w_whole : FnScope ["_law_found"] ["_law_found"] (defScope st_w_whole) := ⟨rfl, rfl, rfl, by decide +kernel, rfl, by decide +kernel, by decide +kernel⟩
def d_w_whole : He.DefD := ⟨("_law_whole", none), "_law_whole", "_law_whole", defArgs (top 53), defBody (top 53), defScope (top 53), [], []⟩
abbrev st_w_mix : Stmt := top 54
theorem sc_w_mix : FnScope ["_law_cell", "_law_k", "_law_value"] ["_law_cell", "_law_k"] (defScope st_w_mix) := ⟨rfl, rfl, rfl, by decide +kernel, rfl, by decide +kernel, by decide +kernel⟩
def d_w_mix : He.DefD := ⟨("_law_mix", none), "_law_mix", "_law_mix", defArgs (top 54), defBody (top 54), defScope (top 54), [], []⟩
abbrev st_w_state_at : Stmt := top 55
theorem sc_w_state_at : FnScope ["_law_grove", "_law_field_here", "_law_x", "_law_y", "_law_level", "_law_half"] ["_law_grove", "_law_field_here", "_law_x", "_law_y"] (defScope st_w_state_at) := ⟨rfl, rfl, rfl, by decide +kernel, rfl, by decide +kernel, by decide +kernel⟩
def d_w_state_at : He.DefD := ⟨("_law_state_at", none), "_law_state_at", "_law_state_at", defArgs (top 55), defBody (top 55), defScope (top 55), [], []⟩
abbrev st_w_count : Stmt := top 56
theorem sc_w_count : FnScope ["_law_grove", "_law_square", "_law_known", "_law_one"] ["_law_grove", "_law_square", "_law_known"] (defScope st_w_count) := ⟨rfl, rfl, rfl, by decide +kernel, rfl, by decide +kernel, by decide +kernel⟩
def d_w_count : He.DefD := ⟨("_law_count", none), "_law_count", "_law_count", defArgs (top 56), defBody (top 56), defScope (top 56), [], []⟩
abbrev st_w_is_field : Stmt := top 57
theorem sc_w_is_field : FnScope ["_law_grove", "_law_field_here", "_law_known", "_law_outer", "_law_k", "_law_quarter", "_law_j", "_law_part"] ["_law_grove", "_law_field_here", "_law_known"] (defScope st_w_is_field) := ⟨rfl, rfl, rfl, by decide +kernel, rfl, by decide +kernel, by decide +kernel⟩
def d_w_is_field : He.DefD := ⟨("_law_is_field", none), "_law_is_field", "_law_is_field", defArgs (top 57), defBody (top 57), defScope (top 57), [], []⟩
abbrev st_w_within : Stmt := top 58
theorem sc_w_within : FnScope ["_law_grove", "_law_square", "_law_x", "_law_y", "_law_known", "_law_level", "_law_half", "_law_cells", "_law_k", "_law_one"] ["_law_grove", "_law_square", "_law_x", "_law_y", "_law_known"] (defScope st_w_within) := ⟨rfl, rfl, rfl, by decide +kernel, rfl, by decide +kernel, by decide +kernel⟩
def d_w_within : He.DefD := ⟨("_law_within", none), "_law_within", "_law_within", defArgs (top 58), defBody (top 58), defScope (top 58), [], []⟩
abbrev st_w_walked : Stmt := top 59
theorem sc_w_walked : FnScope ["_law_grove", "_law_field_here", "_law_known", "_law_half"] ["_law_grove", "_law_field_here"] (defScope st_w_walked) := ⟨rfl, rfl, rfl, by decide +kernel, rfl, by decide +kernel, by decide +kernel⟩
def d_w_walked : He.DefD := ⟨("_law_walked", none), "_law_walked", "_law_walked", defArgs (top 59), defBody (top 59), defScope (top 59), [], []⟩
abbrev st_w_number_by : Stmt := top 60
theorem sc_w_number_by : FnScope ["_law_cell", "_law_value"] ["_law_cell"] (defScope st_w_number_by) := ⟨rfl, rfl, rfl, by decide +kernel, rfl, by decide +kernel, by decide +kernel⟩
def d_w_number_by : He.DefD := ⟨("_law_number_by", none), "_law_number_by", "_law_number_by", defArgs (top 60), defBody (top 60), defScope (top 60), [], []⟩
abbrev st_w_run_by : Stmt := top 61
theorem sc_w_run_by : FnScope ["_law_cell", "_law_amount"] ["_law_cell"] (defScope st_w_run_by) := ⟨rfl, rfl, rfl, by decide +kernel, rfl, by decide +kernel, by decide +kernel⟩
def d_w_run_by : He.DefD := ⟨("_law_run_by", none), "_law_run_by", "_law_run_by", defArgs (top 61), defBody (top 61), defScope (top 61), [], []⟩
abbrev st_w_odd_run : Stmt := top 62
theorem sc_w_odd_run : FnScope ["_law_cell", "_law_odd"] ["_law_cell"] (defScope st_w_odd_run) := ⟨rfl, rfl, rfl, by decide +kernel, rfl, by decide +kernel, by decide +kernel⟩
def d_w_odd_run : He.DefD := ⟨("_law_odd_run", none), "_law_odd_run", "_law_odd_run", defArgs (top 62), defBody (top 62), defScope (top 62), [], []⟩
abbrev st_w_sign_by : Stmt := top 63
theorem sc_w_sign_by : FnScope ["_law_cell", "_law_some"] ["_law_cell"] (defScope st_w_sign_by) := ⟨rfl, rfl, rfl, by decide +kernel, rfl, by decide +kernel, by decide +kernel⟩
def d_w_sign_by : He.DefD := ⟨("_law_sign_by", none), "_law_sign_by", "_law_sign_by", defArgs (top 63), defBody (top 63), defScope (top 63), [], []⟩
abbrev st_w_spoiled : Stmt := top 64
theorem sc_w_spoiled : FnScope ["_law_text", "_law_cell", "_law_sign", "_law_at_here"] ["_law_text", "_law_cell", "_law_sign"] (defScope st_w_spoiled) := ⟨rfl, rfl, rfl, by decide +kernel, rfl, by decide +kernel, by decide +kernel⟩
def d_w_spoiled : He.DefD := ⟨("_law_spoiled", none), "_law_spoiled", "_law_spoiled", defArgs (top 64), defBody (top 64), defScope (top 64), [], []⟩
abbrev st_w_figures : Stmt := top 65
theorem sc_w_figures : FnScope ["_law_text", "_law_most", "_law_sign"] ["_law_text", "_law_most"] (defScope st_w_figures) := ⟨rfl, rfl, rfl, by decide +kernel, rfl, by decide +kernel, by decide +kernel⟩
def d_w_figures : He.DefD := ⟨("_law_figures", none), "_law_figures", "_law_figures", defArgs (top 65), defBody (top 65), defScope (top 65), [], []⟩
abbrev st_w_runs : Stmt := top 66
theorem sc_w_runs : FnScope ["_law_text", "_law_runs_here", "_law_at_here", "_law_amount"] ["_law_text"] (defScope st_w_runs) := ⟨rfl, rfl, rfl, by decide +kernel, rfl, by decide +kernel, by decide +kernel⟩
def d_w_runs : He.DefD := ⟨("_law_runs", none), "_law_runs", "_law_runs", defArgs (top 66), defBody (top 66), defScope (top 66), [], []⟩
abbrev st_w_number : Stmt := top 67
theorem sc_w_number : FnScope ["_law_text"] ["_law_text"] (defScope st_w_number) := ⟨rfl, rfl, rfl, by decide +kernel, rfl, by decide +kernel, by decide +kernel⟩
def d_w_number : He.DefD := ⟨("_law_number", none), "_law_number", "_law_number", defArgs (top 67), defBody (top 67), defScope (top 67), [], []⟩
abbrev st_w_read : Stmt := top 68
theorem sc_w_read : FnScope ["_law_text", "_law_ends", "_law_halves", "_law_left", "_law_top", "_law_runs_here"] ["_law_text"] (defScope st_w_read) := ⟨rfl, rfl, rfl, by decide +kernel, rfl, by decide +kernel, by decide +kernel⟩
def d_w_read : He.DefD := ⟨("_law_read", none), "_law_read", "_law_read", defArgs (top 68), defBody (top 68), defScope (top 68), [], []⟩
abbrev st_w_strips : Stmt := top 69
theorem sc_w_strips : FnScope ["_law_left", "_law_top", "_law_runs_here", "_law_strips_here", "_law_x", "_law_y", "_law_amount", "_law_sign"] ["_law_left", "_law_top", "_law_runs_here"] (defScope st_w_strips) := ⟨rfl, rfl, rfl, by decide +kernel, rfl, by decide +kernel, by decide +kernel⟩
def d_w_strips : He.DefD := ⟨("_law_strips", none), "_law_strips", "_law_strips", defArgs (top 69), defBody (top 69), defScope (top 69), [], []⟩
abbrev st_w_leaves : Stmt := top 70
theorem sc_w_leaves : FnScope ["_law_strips_here", "_law_y", "_law_x", "_law_amount", "_law_state"] ["_law_strips_here"] (defScope st_w_leaves) := ⟨rfl, rfl, rfl, by decide +kernel, rfl, by decide +kernel, by decide +kernel⟩
def d_w_leaves : He.DefD := ⟨("_law_leaves", none), "_law_leaves", "_law_leaves", defArgs (top 70), defBody (top 70), defScope (top 70), [], []⟩
abbrev st_w_has : Stmt := top 71
theorem sc_w_has : FnScope ["_law_grove", "_law_found", "_law_strips_here", "_law_known", "_law_many", "_law_y", "_law_x", "_law_amount", "_law_state", "_law_cells", "_law_strip", "_law_k"] ["_law_grove", "_law_found", "_law_strips_here"] (defScope st_w_has) := ⟨rfl, rfl, rfl, by decide +kernel, rfl, by decide +kernel, by decide +kernel⟩
def d_w_has : He.DefD := ⟨("_law_has", none), "_law_has", "_law_has", defArgs (top 71), defBody (top 71), defScope (top 71), [], []⟩
abbrev st_w_word : Stmt := top 72
theorem sc_w_word : FnScope ["_law_e", "_law_kinds", "_law_words"] ["_law_e"] (defScope st_w_word) := ⟨rfl, rfl, rfl, by decide +kernel, rfl, by decide +kernel, by decide +kernel⟩
def d_w_word : He.DefD := ⟨("_law_word", none), "_law_word", "_law_word", defArgs (top 72), defBody (top 72), defScope (top 72), [], []⟩
abbrev st_w_field : Stmt := top 73
theorem sc_w_field : FnScope ["_law_grove", "_law_thing", "_law_found", "_law_e"] ["_law_grove", "_law_thing"] (defScope st_w_field) := ⟨rfl, rfl, rfl, by decide +kernel, rfl, by decide +kernel, by decide +kernel⟩
def d_w_field : He.DefD := ⟨("_law_field", none), "_law_field", "_law_field", defArgs (top 73), defBody (top 73), defScope (top 73), [], []⟩
abbrev st_w_listed : Stmt := top 74
theorem sc_w_listed : FnScope ["_law_thing", "_law_found", "_law_e"] ["_law_thing"] (defScope st_w_listed) := ⟨rfl, rfl, rfl, by decide +kernel, rfl, by decide +kernel, by decide +kernel⟩
def d_w_listed : He.DefD := ⟨("_law_listed", none), "_law_listed", "_law_listed", defArgs (top 74), defBody (top 74), defScope (top 74), [], []⟩
abbrev st_w_same_runs : Stmt := top 75
theorem sc_w_same_runs : FnScope ["_law_found", "_law_due", "_law_one", "_law_other"] ["_law_found", "_law_due"] (defScope st_w_same_runs) := ⟨rfl, rfl, rfl, by decide +kernel, rfl, by decide +kernel, by decide +kernel⟩
def d_w_same_runs : He.DefD := ⟨("_law_same_runs", none), "_law_same_runs", "_law_same_runs", defArgs (top 75), defBody (top 75), defScope (top 75), [], []⟩
abbrev st_w_right : Stmt := top 76
theorem sc_w_right : FnScope ["_law_grove", "_law_text", "_law_thing", "_law_word_here", "_law_found", "_law_told", "_law_due"] ["_law_grove", "_law_text", "_law_thing"] (defScope st_w_right) := ⟨rfl, rfl, rfl, by decide +kernel, rfl, by decide +kernel, by decide +kernel⟩
def d_w_right : He.DefD := ⟨("_law_right", none), "_law_right", "_law_right", defArgs (top 76), defBody (top 76), defScope (top 76), [], []⟩
abbrev st_law : Stmt := top 77
theorem sc_law : FnScope ["_law_script", "_law_words", "_law_k", "_law_text", "_law_thing", "_law_grove", "_law_body", "_law_due", "_law_word_here", "_law_found"] ["_law_script"] (defScope st_law) := ⟨rfl, rfl, rfl, by decide +kernel, rfl, by decide +kernel, by decide +kernel⟩
def d_law : He.DefD := ⟨("law", none), "law", "law", defArgs (top 77), defBody (top 77), defScope (top 77), [], []⟩
abbrev st_filled_inside : Stmt := (defBody (top 39)).getD 5 (.Pass ⟨0, 0, 0, 0⟩)
theorem sc_filled_inside : NdefX.NScope ["square", "grove", "state"] ["square"] ["grove", "state"] (C8.fnScope st_filled_inside) := NdefX.nscope_by (by decide +kernel)
abbrev st_filled_outside : Stmt := (defBody (top 39)).getD 6 (.Pass ⟨0, 0, 0, 0⟩)
theorem sc_filled_outside : NdefX.NScope ["square"] ["square"] [] (C8.fnScope st_filled_outside) := NdefX.nscope_by (by decide +kernel)
def nmT : Nat → Nat → Str := fun l _ => if l = 233 then "filled.<locals>.inside" else if l = 236 then "filled.<locals>.outside" else ""
def tfs : List (Str × Option Str) := [("filled", none)]
def tabsN (K : PySem.W.Frag) : List NdefX.NTab := tfs.map fun p => (He.tabOf K (He.codeOf K p), nmT)
theorem tt_mem {K : PySem.W.Frag} (i : Nat) {p : Str × Option Str} (h : tfs[i]? = some p) : (He.tabOf K (He.codeOf K p), nmT) ∈ tabsN K := List.mem_map.mpr ⟨p, List.mem_of_getElem? h, rfl⟩
theorem tt_u {K : PySem.W.Frag} {P : Addr} : ∀ p ∈ tabsN K, p.1 = P → p.2 = nmT := fun p hp _ => by obtain ⟨q, _, rfl⟩ := List.mem_map.mp hp; rfl
def fn : List He.DefD := [d_is_whole, d_read_whole, d_round_both, d_round_four, d_is_state, d_Grove_init, d_Grove_kept, d_Grove_cell, d_Grove_knit, d_Grove_even, d_Grove_asked, d_Grove_leaf, d_Grove_joined, d_Grove_solid, d_Grove_level_of, d_Grove_quarters, d_Grove_state_of, d_Grove_living, d_Grove_span, d_meeting, d_middle_of, d_widened, d_trimmed, d_clipped, d_painted, d_from_corner, d_lies_within, d_refuse_box, d_filled, d_amount_of, d_read_runs, d_read_end, d_Hand_init, d_Hand_put, d_read_pattern, d_w_at, d_w_whole, d_w_mix, d_w_state_at, d_w_count, d_w_is_field, d_w_within, d_w_walked, d_w_number_by, d_w_run_by, d_w_odd_run, d_w_sign_by, d_w_spoiled, d_w_figures, d_w_runs, d_w_number, d_w_read, d_w_strips, d_w_leaves, d_w_has, d_w_word, d_w_field, d_w_listed, d_w_same_runs, d_w_right, d_law]
def fa : List He.Fa := [(.free "bool"), (.free "isinstance"), (.free "int"), (.free "str"), (.free "len"), (.int "MOST_FIGURES" 30), (.str "FIGURES_figures" "0123456789"), (.glo "NoNumber"), (.free "min"), (.free "max"), (.free "enumerate"), (.glo "round_both"), (.glo "is_whole"), (.cls "Grove"), (.meth "Grove" "kept"), (.glo "round_four"), (.meth "Grove" "cell"), (.meth "Grove" "knit"), (.int "MANY" 1000000000), (.glo "is_state"), (.meth "Grove" "asked"), (.int "HIGHEST" 48), (.meth "Grove" "even"), (.meth "Grove" "quarters"), (.glo "meeting"), (.meth "Grove" "level_of"), (.glo "middle_of"), (.meth "Grove" "living"), (.glo "clipped"), (.glo "painted"), (.meth "Grove" "joined"), (.glo "refuse_box"), (.glo "lies_within"), (.int "LIMIT" 1099511627776), (.meth "Grove" "leaf"), (.glo "widened"), (.glo "trimmed"), (.glo "from_corner"), (.meth "Grove" "solid"), (.glo "TooFar"), (.int "LONGEST" 13), (.glo "NoPattern"), (.str "FIGURES_runs" "0123456789"), (.str "SIGNS" ".ABCDEFG/"), (.glo "amount_of"), (.glo "read_whole"), (.glo "filled"), (.str "STATES" ".ABCDEFG"), (.mkr "Hand"), (.glo "Hand"), (.glo "read_end"), (.glo "read_runs"), (.cls "Hand"), (.meth "Hand" "put"), (.meth "Grove" "state_of"), (.glo "_law_count"), (.free "sum"), (.glo "_law_whole"), (.glo "_law_within"), (.glo "_law_is_field"), (.free "sorted"), (.glo "_law_figures"), (.glo "_law_number"), (.glo "_law_runs"), (.glo "_law_state_at"), (.free "range"), (.glo "_law_walked"), (.glo "NoRule"), (.glo "Restless"), (.glo "NoSquare"), (.glo "NoLevel"), (.glo "NoState"), (.glo "NoBox"), (.glo "TooMany"), (.glo "NoSteps"), (.glo "NoName"), (.glo "NoRow"), (.free "ValueError"), (.glo "FieldError"), (.glo "read_pattern"), (.glo "_law_word"), (.free "list"), (.free "zip"), (.free "tuple"), (.glo "_law_field"), (.glo "_law_read"), (.glo "_law_strips"), (.glo "_law_leaves"), (.glo "_law_has"), (.glo "_law_at"), (.glo "_law_run_by"), (.glo "_law_mix"), (.glo "_law_odd_run"), (.glo "_law_number_by"), (.glo "_law_spoiled"), (.glo "_law_sign_by"), (.mkr "Grove"), (.glo "Grove"), (.glo "_law_right"), (.glo "_law_listed"), (.glo "_law_same_runs"), (.noat "Grove" "levels"), (.noat "Grove" "lives"), (.noat "Grove" "made"), (.noat "Grove" "numbers"), (.noat "Grove" "plain"), (.noat "Grove" "spans"), (.noat "Hand" "field"), (.noat "Hand" "grove"), (.noat "Hand" "left"), (.noat "Hand" "x"), (.noat "Hand" "y"), (.glo "law")]
def loose0 : List Str := ["FieldError", "NoNumber", "NoRule", "Restless", "NoSquare", "NoLevel", "NoState", "NoBox", "TooFar", "TooMany", "NoSteps", "NoPattern", "NoName", "NoRow", "FIGURES_figures", "MOST_FIGURES", "is_whole", "read_whole", "HIGHEST", "MANY", "round_both", "round_four", "is_state", "Grove", "LIMIT", "meeting", "middle_of", "widened", "trimmed", "clipped"]
def loose1 : List Str := ["painted", "from_corner", "lies_within", "refuse_box", "filled", "FIGURES_runs", "SIGNS", "LONGEST", "amount_of", "read_runs", "STATES", "read_end", "Hand", "read_pattern", "_law_at", "_law_whole", "_law_mix", "_law_state_at", "_law_count", "_law_is_field", "_law_within", "_law_walked", "_law_number_by", "_law_run_by", "_law_odd_run", "_law_sign_by", "_law_spoiled", "_law_figures", "_law_runs", "_law_number"]
def loose2 : List Str := ["_law_read", "_law_strips", "_law_leaves", "_law_has", "_law_word", "_law_field", "_law_listed", "_law_same_runs", "_law_right"]
def looseN : List Str := loose0 ++ loose1 ++ loose2
end JF

/-! ### the head's run, early in the text, in three parts: it wants much room; with tables of code objects -/
namespace JF
open PySem PySem.Spec PyProof.Rows L2
abbrev Rr : PySem.W.OpenRow := PySem.W.OpenLaw.row PySem.Challenge.rw_jumpfield_k84_no_pattern
def hk : PySem.W.Hook := He.hookX 4 fa fn [] tfs tbB
def ob (s : PySem.W.SharedT) : hk.α := He.obsX 4 fa fn [] tfs tbB (HandSHeadRun.getT s)
theorem ob_eq (s : PySem.W.SharedT) : ob s = hk.obs s.abs := He.obsX_eq (HandSHeadRun.getT_eq s)
def hk0 : PySem.W.Hook where
  α := Unit
  obs := fun _ => ()
  val := fun _ => ()
  says := fun _ _ => True
  of := fun _ _ _ => trivial
  keeps := fun _ _ _ _ _ => trivial
def ob0 (_ : PySem.W.SharedT) : hk0.α := ()
def nA : Nat := fa.length / 2
def mA : Nat := fn.length / 2
def KK (g : Addr → Option Obj) : PySem.W.Frag := He.frT g (He.asD g 4)
def obsA (g : Addr → Option Obj) : Bool × He.AlD := (tbB (KK g) && He.tabsB g tfs (KK g), He.obsD (fa.take nA) (fn.take mA) (KK g))
def obsB (g : Addr → Option Obj) : He.AlD := He.obsD (fa.drop nA) (fn.drop mA) (KK g)
theorem obs_join {g : Addr → Option Obj} {w : World} (hA : obsA g = (true, He.valD (fn.take mA))) (hB : obsB g = He.valD (fn.drop mA)) : He.obsX 4 fa fn [] tfs tbB g = He.valX fn [] w := by
  unfold obsA at hA
  rw [Prod.mk.injEq] at hA
  obtain ⟨h1, h2⟩ := hA
  unfold He.obsD He.valD at h2
  unfold obsB He.obsD He.valD at hB
  rw [Prod.mk.injEq, Bool.and_eq_true] at h2 hB
  obtain ⟨⟨a1, a2⟩, a3⟩ := h2
  obtain ⟨⟨b1, b2⟩, b3⟩ := hB
  have hD : He.obsD fa fn (KK g) = He.valD fn := by
    unfold He.obsD He.valD
    rw [Prod.mk.injEq, Bool.and_eq_true]
    refine ⟨⟨?_, ?_⟩, ?_⟩
    · rw [← List.take_append_drop nA fa, List.all_append, a1, b1]; rfl
    · rw [← List.take_append_drop mA fn, List.all_append, a2, b2]; rfl
    · rw [← List.take_append_drop mA fn, List.map_append, List.map_append, a3, b3]
  show ((He.obsD fa fn (KK g), _), tbB (KK g) && He.tabsB g tfs (KK g)) = ((He.valD fn, _), true)
  rw [h1, hD]
  rfl
noncomputable abbrev endS (w : World) (os : OsState) := HandSHeadRun.endF (HandSHeadRun.stepQ (HandSHeadRun.denQ HandSHeadRun.tabQ) Rr.prog w) 100000 Rr.prog w os
theorem run0 (w : World) : HandSHeadRun.RunEq Rr (PySem.W.view Rr.prog [77]) hk0 ob0 100000 looseN w := by
  intro os
  kernel_rfl
theorem runA (w : World) (os : OsState) : (endS w os).map (fun s => obsA (HandSHeadRun.getT s)) = some (true, He.valD (fn.take mA)) := by kernel_rfl
theorem runB (w : World) (os : OsState) : (endS w os).map (fun s => obsB (HandSHeadRun.getT s)) = some (He.valD (fn.drop mA)) := by kernel_rfl
theorem run (w : World) : HandSHeadRun.RunEq Rr (PySem.W.view Rr.prog [77]) hk ob 100000 looseN w := by
  intro os
  have h0 := run0 w os
  have hA := runA w os
  have hB := runB w os
  unfold endS at hA hB
  generalize HandSHeadRun.endF (HandSHeadRun.stepQ (HandSHeadRun.denQ HandSHeadRun.tabQ) Rr.prog w) 100000 Rr.prog w os = x at h0 hA hB ⊢
  cases x with
  | none => cases h0
  | some s =>
    rw [Option.map_some, Option.some.injEq] at h0 hA hB ⊢
    rw [Prod.mk.injEq, Prod.mk.injEq] at h0 ⊢
    exact ⟨h0.1, h0.2.1, obs_join hA hB⟩
end JF

/-! ### readings step by step: a rule for each construct, tried by «walk_at "rd"» -/
namespace JF
open PySem PySem.Spec PyProof.Rows L2
section
variable {D : Ends} {σ : L2.St} {H : Hp} {Q : VK} {QB : Bool → Hp → Prop} {QA : List V → Hp → Prop} {t u : TS} {te ta tb tc : TE} {g : TG} {c c' : TT} {v : V} {i : Nat} {K : PySem.W.Frag}
theorem rd_seq (h : t { D with nx := u D } σ H) : tSeq t u D σ H := h
/-- the walk halts ahead of a loop -/
def Halt (p : Prop) : Prop := p
theorem rd_seqF {wi : TI} (h : Halt (tSeq (tFor wi g t) u D σ H)) : tSeq (tFor wi g t) u D σ H := h
theorem rd_seqW (h : Halt (tSeq (tWhile c t) u D σ H)) : tSeq (tWhile c t) u D σ H := h
theorem rd_seqI {t' : TS} (h : Halt (tSeq (tIfS c t t') u D σ H)) : tSeq (tIfS c t t') u D σ H := h
theorem rd_next (h : D.nx σ H) : tNext D σ H := h
theorem rd_asg (h : te σ H fun x H1 => g x σ H1 D.nx) : tAsg te g D σ H := h
theorem rd_gname {R : L2.St → Hp → Prop} (h : R (σ.set i (some v)) H) : gName i v σ H R := h
theorem rd_ret (h : te σ H D.rt) : tRet te D σ H := h
theorem rd_retN (h : D.rt .non H) : tRetN D σ H := h
theorem rd_drop (h : te σ H fun _ H1 => D.nx σ H1) : tDrop te D σ H := h
theorem rd_if (h : c σ H fun b H1 => if b = true then t D σ H1 else u D σ H1) : tIfS c t u D σ H := h
theorem rd_ifE (h : c σ H fun b H1 => if b = true then ta σ H1 Q else tb σ H1 Q) : tIf c ta tb σ H Q := h
theorem rd_brk (h : D.bk σ H) : tBreak D σ H := h
theorem rd_cont (h : D.ct σ H) : tCont D σ H := h
theorem rd_var (h : σ[i]? = some (some v)) (q : Q v H) : tVar i σ H Q := ⟨v, h, q⟩
theorem rd_c (q : Q v H) : tC v σ H Q := q
theorem rd_op {r : R2} (h : ta σ H fun x H1 => tb σ H1 fun y H2 => r x y H2 Q) : tOp r ta tb σ H Q := h
theorem rd_un {r : V → Hp → VK → Prop} (h : ta σ H fun x H1 => r x H1 Q) : tUn r ta σ H Q := h
theorem rd_I0 {f : Int → Int → V} {a b : Int} (q : Q (f a b) H) : rI0 f (.int a) (.int b) H Q := ⟨a, b, rfl, rfl, q⟩
theorem rd_U {f : Int → V} {a : Int} (q : Q (f a) H) : rU f (.int a) H Q := ⟨a, rfl, q⟩
theorem rd_test (h : te σ H fun x H' => ∃ k, x = .bl k ∧ QB k H') : tTest te σ H QB := h
theorem rd_B (h : te σ H fun x H' => ∃ k, x = .bl k ∧ QB k H') : tB te σ H QB := h
theorem rd_bl {b : Bool} {R : Bool → Prop} (q : R b) : ∃ k, V.bl b = .bl k ∧ R k := ⟨b, rfl, q⟩
theorem iteT' {A B : Prop} (h : A) : if true = true then A else B := iteT h
theorem iteF' {A B : Prop} (h : B) : if false = true then A else B := iteF h
theorem iteNT {A B : Prop} (h : B) : if (!true) = true then A else B := iteF h
theorem iteNF {A B : Prop} (h : A) : if (!false) = true then A else B := iteT h
theorem rd_for {wi : TI} (h : wi σ H fun J H1 => ∃ W : Nat → Nat → L2.St → Hp → Prop, (∃ m, W 0 m σ H1) ∧ ∀ i m σ H, W i m σ H →
  (J.stop i H ∧ D.nx σ H) ∨ (J.go i H ∧ ∃ N : L2.St → Hp → Prop, (∀ σ' H', N σ' H' → ∃ m', m' < m ∧ W (i + 1) m' σ' H') ∧ ∀ x H', J.yld i H x H' → g x σ H' fun σ2 H2 => t { D with nx := N, ct := N, bk := D.nx } σ2 H2)) : tFor wi g t D σ H := h
theorem rd_and (h : c σ H fun b H1 => if b = true then c' σ H1 QB else QB false H1) : tAnd c c' σ H QB := h
theorem rd_or (h : c σ H fun b H1 => if b = true then QB true H1 else c' σ H1 QB) : tOr c c' σ H QB := h
theorem rd_not (h : c σ H fun b H1 => QB (!b) H1) : tNot c σ H QB := h
theorem rd_andV (h : ta σ H fun x H1 => ∃ k, x = .bl k ∧ if k = true then tb σ H1 Q else Q (.bl false) H1) : tAndV ta tb σ H Q := h
theorem rd_orV (h : ta σ H fun x H1 => ∃ k, x = .bl k ∧ if k = true then Q (.bl true) H1 else tb σ H1 Q) : tOrV ta tb σ H Q := h
theorem rd_notV (h : ta σ H fun x H1 => ∃ k, x = .bl k ∧ Q (.bl (!k)) H1) : tNotV ta σ H Q := h
theorem rd_eqI {a b : Int} (q : Q (.bl (decide (a = b))) H) : rEq (.int a) (.int b) H Q := ⟨rfl, by
  have e : decide (V.int a = V.int b) = decide (a = b) := by by_cases z : a = b <;> simp [z]
  rw [e]; exact q⟩
theorem rd_neI {a b : Int} (q : Q (.bl (!decide (a = b))) H) : rNe (.int a) (.int b) H Q := ⟨rfl, by
  have e : decide (V.int a = V.int b) = decide (a = b) := by by_cases z : a = b <;> simp [z]
  rw [e]; exact q⟩
theorem rd_eqS {a b : Str} (q : Q (.bl (decide (a = b))) H) : rEq (.str a) (.str b) H Q := ⟨rfl, by
  have e : decide (V.str a = V.str b) = decide (a = b) := by by_cases z : a = b <;> simp [z]
  rw [e]; exact q⟩
theorem rd_neS {a b : Str} (q : Q (.bl (!decide (a = b))) H) : rNe (.str a) (.str b) H Q := ⟨rfl, by
  have e : decide (V.str a = V.str b) = decide (a = b) := by by_cases z : a = b <;> simp [z]
  rw [e]; exact q⟩
theorem rd_nil (q : QA [] H) : tNil σ H QA := q
theorem rd_cons {tr : TA} (h : ta σ H fun x H1 => tr σ H1 fun xs H2 => QA (x :: xs) H2) : tCons ta tr σ H QA := h
theorem rd_call {sp : Sp} {dvs : List V} {E : XK} {tr : TA} (h : tr σ H fun vs H1 => sp (vs ++ dvs) H1 Q E) : tCall sp dvs E tr σ H Q := h
theorem rd_CB {r : List V → Hp → VK → Prop} {tr : TA} (h : tr σ H fun vs H1 => r vs H1 Q) : tCB r tr σ H Q := h
theorem rd_meth {C : Addr} {m : Str} {sp : Sp} {dvs : List V} {E : XK} {tr : TA} (h : ta σ H fun x H1 => ∃ a dx fs, x = .ref a ∧ H1 a = some (.ins C dx fs) ∧ fs.lookup m = none ∧ tr σ H1 fun vs H2 => sp (x :: (vs ++ dvs)) H2 Q E) : tMeth C m sp dvs E ta tr σ H Q := h
theorem rd_methR {a dx : Addr} {fs : List (Str × V)} {C : Addr} {m : Str} {R : Prop} (h1 : H a = some (.ins C dx fs)) (h2 : fs.lookup m = none) (q : R) : ∃ a' dx fs, V.ref a = .ref a' ∧ H a' = some (.ins C dx fs) ∧ fs.lookup m = none ∧ R := ⟨a, dx, fs, rfl, h1, h2, q⟩
theorem rd_fld {f : Str} (h : ta σ H fun x H1 => ∃ a C dx fs v, x = .ref a ∧ H1 a = some (.ins C dx fs) ∧ Cls K C ∧ NoAttr K C f ∧ fs.lookup f = some v ∧ Q v H1) : tFld K ta f σ H Q := h
theorem rd_fldR {a C dx : Addr} {fs : List (Str × V)} {f : Str} {R : V → Prop} (h1 : H a = some (.ins C dx fs)) (h2 : Cls K C) (h3 : NoAttr K C f) (h4 : fs.lookup f = some v) (q : R v) : ∃ a' C dx fs v, V.ref a = .ref a' ∧ H a' = some (.ins C dx fs) ∧ Cls K C ∧ NoAttr K C f ∧ fs.lookup f = some v ∧ R v := ⟨a, C, dx, fs, v, rfl, h1, h2, h3, h4, q⟩
theorem rd_chain {r r' : R2} (h : ta σ H fun x H1 => tb σ H1 fun y H2 => r x y H2 fun z H3 => ∃ k, z = .bl k ∧ (if k = true then tc σ H3 fun w' H4 => r' y w' H4 Q else Q (.bl false) H3)) : tChain r r' ta tb tc σ H Q := h
theorem rd_tup {tr : TA} (h : tr σ H fun xs H1 => xs.length ≤ sizeLine ∧ ∀ p, H1 p = none → Q (.ref p) (upd H1 p (.tup xs))) : tTup tr σ H Q := h
theorem rd_lst {tr : TA} (h : tr σ H fun xs H1 => xs.length ≤ sizeLine ∧ ∀ p, H1 p = none → Q (.ref p) (upd H1 p (.lst xs))) : tLst tr σ H Q := h
theorem rd_new {n : Nat} {R : Addr → Prop} (hn : n ≤ sizeLine := by (first | (show _ ≤ sizeLine; decide) | omega)) (h : ∀ p, H p = none → R p) : n ≤ sizeLine ∧ ∀ p, H p = none → R p := ⟨hn, h⟩
theorem rd_bm {T : String} {r : V → List V → Hp → VK → Prop} {tr : TA} (h : ta σ H fun x H1 => tyV K T x H1 ∧ tr σ H1 fun xs H2 => r x xs H2 Q) : tBM K T r ta tr σ H Q := h
theorem rd_bm0 {T : String} {r : V → List V → Hp → VK → Prop} (h : ta σ H fun x H1 => tyV K T x H1 ∧ r x [] H1 Q) : tBM0 K T r ta σ H Q := h
theorem rd_ixL {p : Addr} {xs : List V} {k : Int} (h1 : SqL K H p xs) (h2 : atI xs k = some v) (q : Q v H) : rIxL K (.ref p) (.int k) H Q := ⟨p, xs, k, v, rfl, rfl, h1, h2, q⟩
theorem rd_ixT {p : Addr} {xs : List V} {k : Int} (h1 : SqT K H p xs) (h2 : atI xs k = some v) (q : Q v H) : rIxT K (.ref p) (.int k) H Q := ⟨p, xs, k, v, rfl, rfl, h1, h2, q⟩
theorem rd_tyL {l : Addr} {xs : List V} {R : Prop} (h1 : H l = some (.lst xs)) (q : R) : tyV K "list" (.ref l) H ∧ R := ⟨Or.inl ⟨rfl, _, Or.inl (Or.inl h1)⟩, q⟩
theorem rd_append {l : Addr} {xs : List V} {y : V} (h1 : H l = some (.lst xs)) (h2 : xs.length < sizeLine) (q : Q .non (upd H l (.lst (xs ++ [y])))) : rAppend (.ref l) [y] H Q :=
  ⟨l, xs, y, rfl, rfl, h1, h2, q⟩
theorem rd_dget {td ty : TE} (h : td σ H fun x H1 => ty σ H1 fun y H2 => ∃ a v, x = .ref a ∧ DGet H2 a y (some v) ∧ Q v H2) : tDGet td ty σ H Q := h
theorem rd_din {td ty : TE} (h : ty σ H fun y H1 => td σ H1 fun x H2 => ∃ a o, x = .ref a ∧ DGet H2 a y o ∧ Q (.bl o.isSome) H2) : tDIn ty td σ H Q := h
theorem rd_dput {td ty tv : TE} (h : tv σ H fun v H1 => td σ H1 fun x H2 => ty σ H2 fun y H3 => ∃ a H4, x = .ref a ∧ DPut H3 a y v H4 ∧ D.nx σ H4) : sDPut td ty tv D σ H := h
theorem rd_2I {a b : Int} {R : Int → Int → Prop} (h : R a b) : ∃ i j, [V.int a, V.int b] = [V.int i, V.int j] ∧ R i j := ⟨a, b, rfl, h⟩
theorem rd_I {C : Int → Int → Prop} {f : Int → Int → V} {a b : Int} (hc : C a b) (q : Q (f a b) H) : rI C f (.int a) (.int b) H Q := ⟨a, b, rfl, rfl, hc, q⟩
theorem rd_mod {f : Int → Int → V} {a b : Int} (hc : 0 < b) (q : Q (f a b) H) : rI (fun _ j => 0 < j) f (.int a) (.int b) H Q := ⟨a, b, rfl, rfl, hc, q⟩
theorem rd_fdiv {f : Int → Int → V} {a b : Int} (h1 : 0 < b) (h2 : b < 2 ^ 100) (q : Q (f a b) H) : rI CDivW f (.int a) (.int b) H Q :=
  ⟨a, b, rfl, rfl, wide_div h1 (b := 100) (by have h3 : (b.natAbs : Int) = b := by omega
                                              have h4 : (b.natAbs : Int) < ((2 ^ 100 : Nat) : Int) := by rw [h3]; exact h2
                                              exact Int.ofNat_lt.mp h4) (by decide) (by decide), q⟩
theorem mulW_of {a b : Int} (h1 : -(2 ^ 2000) < a) (h2 : a < 2 ^ 2000) (h3 : -(2 ^ 2000) < b) (h4 : b < 2 ^ 2000) : CMulW a b := by
  have e : ∀ x : Int, -(2 ^ 2000) < x → x < 2 ^ 2000 → x.natAbs < 2 ^ 2000 := fun x p q => by
    have e1 : ((2 ^ 2000 : Nat) : Int) = (2 : Int) ^ 2000 := by norm_cast
    have h : (x.natAbs : Int) < ((2 ^ 2000 : Nat) : Int) := by rw [e1]; omega
    exact Int.ofNat_lt.mp h
  exact wide_mul (e a h1 h2) (e b h3 h4) (by decide) (by decide) (by decide)
theorem rd_nn {R : Prop} (h : R) : V.non = V.non ∧ R := ⟨rfl, h⟩
theorem rd_len {p : Addr} {ys : List V} {R : List V → Prop} (h : SqL K H p ys) (q : R ys) : ∃ p' ys, [V.ref p] = [V.ref p'] ∧ (SqL K H p' ys ∨ SqT K H p' ys) ∧ R ys := ⟨p, ys, rfl, .inl h, q⟩
theorem rd_lenT {p : Addr} {ys : List V} {R : List V → Prop} (h : SqT K H p ys) (q : R ys) : ∃ p' ys, [V.ref p] = [V.ref p'] ∧ (SqL K H p' ys ∨ SqT K H p' ys) ∧ R ys := ⟨p, ys, rfl, .inr h, q⟩
theorem rd_iE {tr : TA} {R : It → Hp → Prop} (h : tr σ H fun vs H1 => ∃ a xs, vs = [.ref a] ∧ SqL K H1 a xs ∧ R (Ite K a) H1) : iEnum K tr σ H R := h
theorem rd_iL {R : It → Hp → Prop} (h : te σ H fun x H1 => ∃ a, x = .ref a ∧ (∃ xs, SqL K H1 a xs) ∧ R (Itl K a) H1) : iList K te σ H R := h
theorem rd_iT {R : It → Hp → Prop} (h : te σ H fun x H1 => ∃ a, x = .ref a ∧ (∃ xs, SqT K H1 a xs) ∧ R (Itt K a) H1) : iTup K te σ H R := h
theorem rd_iR1 {tr : TA} {R : It → Hp → Prop} (h : tr σ H fun vs H1 => ∃ j : Int, vs = [.int j] ∧ -(2 ^ 62) ≤ j ∧ j < 2 ^ 62 ∧ R (Itr 0 j.toNat) H1) : iRng1 tr σ H R := h
theorem rd_iR2 {tr : TA} {R : It → Hp → Prop} (h : tr σ H fun vs H1 => ∃ i j : Int, vs = [.int i, .int j] ∧ (-(2 ^ 62) ≤ i ∧ i < 2 ^ 62 ∧ -(2 ^ 62) ≤ j ∧ j < 2 ^ 62) ∧ R (Itr i (j - i).toNat) H1) : iRng2 tr σ H R := h
theorem rd_iR3 {tr : TA} {R : It → Hp → Prop} (h : tr σ H fun vs H1 => ∃ (i j c : Int) (n : Nat), vs = [.int i, .int j, .int c] ∧ RgC i j c n ∧ R (Itc i c n) H1) : iRng3 tr σ H R := h
theorem rd_iS {R : It → Hp → Prop} (h : te σ H fun v H1 => ∃ x, v = .str x ∧ R (Its x) H1) : iStr te σ H R := h
theorem rd_iZ {tr : TA} {R : It → Hp → Prop} (h : tr σ H fun vs H1 => ∃ a b xs ys, vs = [.ref a, .ref b] ∧ SqL K H1 a xs ∧ SqL K H1 b ys ∧ R (Itz K a b) H1) : iZip K tr σ H R := h
theorem rd_sl {r : V → Option Int → Option Int → Hp → VK → Prop} {tl th : TO} (h : te σ H fun x H1 => tl σ H1 fun l H2 => th σ H2 fun u H3 => r x l u H3 Q) : tSl r te tl th σ H Q := h
theorem rd_np {R : Option Int → Hp → Prop} (h : R none H) : tNoPart σ H R := h
theorem rd_pt {R : Option Int → Hp → Prop} (h : te σ H fun x H1 => ∃ i, x = .int i ∧ R (some i) H1) : tPart te σ H R := h
theorem rd_int {a : Int} {R : Int → Prop} (h : R a) : ∃ i, V.int a = .int i ∧ R i := ⟨a, rfl, h⟩
theorem rd_gtup {n : Nat} {tt : TGs} {a : Addr} {xs : List V} {R : L2.St → Hp → Prop} (h1 : SqT K H a xs) (h2 : xs.length = n) (q : tt xs σ H R) : gTup K n tt (.ref a) σ H R := ⟨a, xs, rfl, h1, h2, q⟩
theorem rd_gcons {tt : TGs} {r : List V} {R : L2.St → Hp → Prop} (q : g v σ H fun σ' H' => tt r σ' H' R) : gCons g tt (v :: r) σ H R := ⟨v, r, rfl, q⟩
theorem rd_gsub {to ti : TE} {ts : TSet} {R : L2.St → Hp → Prop} (h : to σ H fun o H1 => ti σ H1 fun i H2 => ts o i v H2 fun H3 => R σ H3) : gSub to ti ts v σ H R := h
theorem rd_gnil {R : L2.St → Hp → Prop} (q : R σ H) : gNil [] σ H R := ⟨rfl, q⟩
theorem rd_lc {wi : TI} {vs : List Nat} (h : wi σ H fun J H1 => ∀ D, H1 D = none → ∃ W : Nat → Nat → Hp → Prop, (∃ m, W 0 m (upd H1 D (.lst []))) ∧ ∀ i m H, W i m H →
  (J.stop i H ∧ Q (.ref D) H) ∨ (J.go i H ∧ ∃ Nx : Hp → Prop, (∀ H', Nx H' → ∃ m', m' < m ∧ W (i + 1) m' H') ∧ ∀ x H', J.yld i H x H' → g x (wipe σ vs) H' fun σ2 H2 => wipe σ2 vs = wipe σ vs ∧ c σ2 H2 fun b H3 =>
    if b = true then te σ2 H3 fun y H4 => ∃ acc, H4 D = some (.lst acc) ∧ acc.length < sizeLine ∧ Nx (upd H4 D (.lst (acc ++ [y]))) else Nx H3)) : tLc wi g c te vs σ H Q := h
theorem rd_yes (h : QB true H) : tYes σ H QB := h
theorem rd_dsetd {td ty tx : TE} (h : td σ H fun x H1 => ∃ a, x = .ref a ∧ IsD H1 a ∧ ty σ H1 fun y H2 => tx σ H2 fun z H3 => ∃ (kvs : List (Key × V)) (k : Key), H3 a = some (.dK kvs) ∧ y = kV k ∧ kvs.length < sizeLine ∧
  (∀ v, valV kvs k = some v → Q v H3) ∧ (valV kvs k = none → Q z (upd H3 a (.dK (putK kvs k z))))) : tDSetd td ty tx σ H Q := h
theorem rd_isD {a : Addr} {kvs : List (Key × V)} {R : Addr → Prop} (h : H a = some (.dK kvs)) (q : R a) : ∃ b, V.ref a = .ref b ∧ IsD H b ∧ R b := ⟨a, rfl, .inl ⟨kvs, .inl h⟩, q⟩
theorem rd_fldS {ta tv : TE} {f : Str} (h : tv σ H fun y H1 => ta σ H1 fun x H2 => ∃ a C dx fs, x = .ref a ∧ H2 a = some (.ins C dx fs) ∧ Cls K C ∧ NoAttr K C f ∧ fs.length < 1000 ∧ D.nx σ (upd H2 a (.ins C dx (putF f y fs)))) : sFld K ta tv f D σ H := h
theorem rd_newK {R : Addr → Prop} (h : ∀ p, H p = none → R p) : ∀ p, H p = none → R p := h
theorem dp_ints {ns : List Int} : DpAll K H (ns.map V.int) (ns.map PyData.int) := by
  induction ns with
  | nil => exact .nil
  | cons n r ih => exact .cons (.int n) ih
theorem rd_eqDI {p p' : Addr} {ns ms : List Int} (h1 : SqL K H p (ns.map V.int)) (h2 : SqL K H p' (ms.map V.int)) (s1 : SeqAt.shaped (.list (ns.map PyData.int)) = true) (s2 : SeqAt.shaped (.list (ms.map PyData.int)) = true)
    (q : Q (.bl (PyData.eqv (.list (ns.map PyData.int)) (.list (ms.map PyData.int)))) H) : rEqD K (.ref p) (.ref p') H Q := ⟨_, _, .lst h1 dp_ints, .lst h2 dp_ints, s1, s2, q⟩
theorem rd_neDI {p p' : Addr} {ns ms : List Int} (h1 : SqL K H p (ns.map V.int)) (h2 : SqL K H p' (ms.map V.int)) (s1 : SeqAt.shaped (.list (ns.map PyData.int)) = true) (s2 : SeqAt.shaped (.list (ms.map PyData.int)) = true)
    (q : Q (.bl (!PyData.eqv (.list (ns.map PyData.int)) (.list (ms.map PyData.int)))) H) : rNeD K (.ref p) (.ref p') H Q := ⟨_, _, .lst h1 dp_ints, .lst h2 dp_ints, s1, s2, q⟩
theorem rd_rep {l : Addr} {k : Int} {xs : List V} (h1 : H l = some (.lst xs)) (h2 : -(2 ^ 63) ≤ k) (h3 : k < 2 ^ 63) (h4 : xs.length * k.toNat ≤ sizeLine) (q : ∀ p, H p = none → Q (.ref p) (upd H p (.lst (List.replicate k.toNat xs).flatten))) : rRep (.ref l) (.int k) H Q :=
  ⟨l, k, xs, rfl, rfl, h1, h2, h3, h4, q⟩
theorem ite_d {p : Prop} [Decidable p] {A B : Prop} (h1 : p → A) (h2 : ¬ p → B) : if decide p = true then A else B := by
  by_cases h : p
  · rw [decide_eq_true h, if_pos rfl]; exact h1 h
  · rw [decide_eq_false h, if_neg Bool.false_ne_true]; exact h2 h
theorem ite_nd {p : Prop} [Decidable p] {A B : Prop} (h1 : ¬ p → A) (h2 : p → B) : if (!decide p) = true then A else B := by
  by_cases h : p
  · rw [decide_eq_true h]; exact iteF (h2 h)
  · rw [decide_eq_false h]; exact iteT (h1 h)
theorem ite_b {b : Bool} {A B : Prop} (h1 : b = true → A) (h2 : b = false → B) : if b = true then A else B := by
  cases b
  · exact iteF (h2 rfl)
  · exact iteT (h1 rfl)
theorem ite_nb {b : Bool} {A B : Prop} (h1 : b = false → A) (h2 : b = true → B) : if (!b) = true then A else B := by
  cases b
  · exact iteT (h1 rfl)
  · exact iteF (h2 rfl)
end
end JF

local macro_rules | `(tactic| walk_at "rs1") => `(tactic| first
  | with_reducible refine JF.rd_seq ?_ | with_reducible refine JF.rd_asg ?_ | with_reducible refine JF.rd_gname ?_
  | with_reducible refine JF.rd_var rfl ?_ | with_reducible refine JF.rd_c ?_ | with_reducible refine JF.rd_op ?_ | with_reducible refine JF.rd_I0 ?_
  | with_reducible refine JF.rd_if ?_ | with_reducible refine JF.rd_test ?_ | with_reducible refine JF.rd_bl ?_
  | with_reducible refine JF.rd_eqI ?_ | with_reducible refine JF.rd_neI ?_ | with_reducible refine JF.rd_eqS ?_ | with_reducible refine JF.rd_neS ?_
  | with_reducible refine JF.rd_cons ?_ | with_reducible refine JF.rd_nil ?_ | with_reducible refine JF.rd_call ?_ | with_reducible refine JF.rd_meth ?_ | with_reducible refine JF.rd_fld ?_ | with_reducible refine JF.rd_CB ?_
  | with_reducible refine JF.rd_ret ?_ | with_reducible refine JF.rd_drop ?_ | with_reducible refine JF.rd_next ?_ | with_reducible refine JF.rd_and ?_ | with_reducible refine JF.rd_or ?_ | with_reducible refine JF.rd_not ?_
  | with_reducible refine JF.rd_andV ?_ | with_reducible refine JF.rd_orV ?_ | with_reducible refine JF.rd_notV ?_ | with_reducible refine JF.rd_B ?_ | with_reducible refine JF.rd_un ?_ | with_reducible refine JF.rd_U ?_
  | with_reducible refine JF.rd_chain ?_ | with_reducible refine JF.rd_tup ?_ | with_reducible refine JF.rd_lst ?_ | with_reducible refine JF.rd_bm ?_ | with_reducible refine JF.rd_bm0 ?_
  | with_reducible refine JF.rd_dget ?_ | with_reducible refine JF.rd_din ?_ | with_reducible refine JF.rd_dput ?_ | with_reducible refine JF.rd_ifE ?_ | with_reducible refine JF.rd_retN ?_ | with_reducible refine JF.rd_brk ?_ | with_reducible refine JF.rd_cont ?_
  | with_reducible refine JF.iteT' ?_ | with_reducible refine JF.iteF' ?_ | with_reducible refine JF.iteNT ?_ | with_reducible refine JF.iteNF ?_ | ((with_reducible refine' JF.rd_fldR ?h1 ?h2 ?h3 ?h4 ?q); (case h1 => assumption); (case h2 => assumption); (case h3 => assumption); (case h4 => exact rfl))
  | with_reducible refine JF.rd_dsetd ?_ | with_reducible refine JF.rd_fldS ?_
  | with_reducible refine JF.rd_yes ?_ | with_reducible refine JF.rd_iE ?_ | with_reducible refine JF.rd_iL ?_ | with_reducible refine JF.rd_iT ?_ | with_reducible refine JF.rd_iR1 ?_ | with_reducible refine JF.rd_iR2 ?_ | with_reducible refine JF.rd_iR3 ?_ | with_reducible refine JF.rd_iS ?_ | with_reducible refine JF.rd_iZ ?_ | with_reducible refine JF.rd_sl ?_ | with_reducible refine JF.rd_np ?_ | with_reducible refine JF.rd_pt ?_ | with_reducible refine JF.rd_int ?_
  | ((with_reducible refine' JF.rd_gtup ?h1 ?h2 ?q); (case h1 => exact L2.SqT.of (by assumption)); (case h2 => exact rfl)) | with_reducible refine JF.rd_gcons ?_ | with_reducible refine JF.rd_gnil ?_ | with_reducible refine JF.rd_gsub ?_
  | with_reducible refine JF.rd_2I ?_ | ((with_reducible refine' JF.rd_ixT ?h1 ?h2 ?q); (case h1 => exact L2.SqT.of (by assumption)); (case h2 => exact rfl)) | ((with_reducible refine JF.rd_mod ?_ ?_); · decide) | ((with_reducible refine JF.rd_fdiv ?h1 ?h2 ?_); (case h1 => decide); (case h2 => decide)) | with_reducible refine JF.rd_nn ?_)
local macro_rules | `(tactic| walk_at "rd1") => `(tactic| first | walk_at "rs1" | with_reducible refine JF.rd_for ?_ | with_reducible refine JF.rd_lc ?_)
local macro_rules | `(tactic| walk_at "rh") => `(tactic| repeat (first | with_reducible refine JF.rd_seqF ?_ | with_reducible refine JF.rd_seqW ?_ | walk_at "rs1"))
local macro_rules | `(tactic| walk_at "rhi") => `(tactic| repeat (first | with_reducible refine JF.rd_seqF ?_ | with_reducible refine JF.rd_seqW ?_ | with_reducible refine JF.rd_seqI ?_ | walk_at "rs1"))
local macro_rules | `(tactic| walk_at "rs") => `(tactic| repeat walk_at "rs1")
local macro_rules | `(tactic| walk_at "rd") => `(tactic| repeat walk_at "rd1")
local macro_rules | `(tactic| walk_at "ne") => `(tactic| first | assumption | (apply Ne.symm; assumption))
local macro_rules | `(tactic| walk_at "hp") => `(tactic| first | assumption | exact L2.upd_same | ((with_reducible refine (L2.upd_ne ?h1).trans ?h2); (case h1 => walk_at "ne"); (case h2 => walk_at "hp")))

/-! ### readings are monotone in what is wanted; a cut between two statements -/
namespace JF
open PySem PySem.Spec PyProof.Rows L2
def MonE (t : TE) : Prop := ∀ σ H (Q Q' : VK), (∀ v H, Q v H → Q' v H) → t σ H Q → t σ H Q'
def MonT (t : TT) : Prop := ∀ σ H (Q Q' : Bool → Hp → Prop), (∀ v H, Q v H → Q' v H) → t σ H Q → t σ H Q'
def MonA (t : TA) : Prop := ∀ σ H (Q Q' : List V → Hp → Prop), (∀ v H, Q v H → Q' v H) → t σ H Q → t σ H Q'
def MonO (t : TO) : Prop := ∀ σ H (Q Q' : Option Int → Hp → Prop), (∀ v H, Q v H → Q' v H) → t σ H Q → t σ H Q'
def MonR (r : R2) : Prop := ∀ x y H (Q Q' : VK), (∀ v H, Q v H → Q' v H) → r x y H Q → r x y H Q'
def MonU (r : V → Hp → VK → Prop) : Prop := ∀ x H (Q Q' : VK), (∀ v H, Q v H → Q' v H) → r x H Q → r x H Q'
def MonC (r : List V → Hp → VK → Prop) : Prop := ∀ x H (Q Q' : VK), (∀ v H, Q v H → Q' v H) → r x H Q → r x H Q'
def MonM (r : V → List V → Hp → VK → Prop) : Prop := ∀ x y H (Q Q' : VK), (∀ v H, Q v H → Q' v H) → r x y H Q → r x y H Q'
def MonL (r : V → Option Int → Option Int → Hp → VK → Prop) : Prop := ∀ x y z H (Q Q' : VK), (∀ v H, Q v H → Q' v H) → r x y z H Q → r x y z H Q'
def MonG (g : TG) : Prop := ∀ v σ H (Q Q' : L2.St → Hp → Prop), (∀ σ H, Q σ H → Q' σ H) → g v σ H Q → g v σ H Q'
def MonGs (g : TGs) : Prop := ∀ v σ H (Q Q' : L2.St → Hp → Prop), (∀ σ H, Q σ H → Q' σ H) → g v σ H Q → g v σ H Q'
def MonI (t : TI) : Prop := ∀ σ H (Q Q' : It → Hp → Prop), (∀ v H, Q v H → Q' v H) → t σ H Q → t σ H Q'
def MonP (sp : Sp) : Prop := ∀ vs H (Q Q' : VK) E, (∀ v H, Q v H → Q' v H) → sp vs H Q E → sp vs H Q' E
def EndsLe (D D' : Ends) : Prop := (∀ σ H, D.nx σ H → D'.nx σ H) ∧ (∀ v H, D.rt v H → D'.rt v H) ∧ (∀ σ H, D.bk σ H → D'.bk σ H) ∧ (∀ σ H, D.ct σ H → D'.ct σ H)
def MonS (t : TS) : Prop := ∀ D D' σ H, EndsLe D D' → t D σ H → t D' σ H
section
variable {t u : TS} {te ta tb tc : TE} {c c' : TT} {g : TG} {gs : TGs} {tr : TA} {r r' : R2} {wi : TI}
/-- THE CUT: P holds between both -/
theorem rd_cut {D : Ends} {σ : L2.St} {H : Hp} (P : L2.St → Hp → Prop) (m : MonS t) (h1 : t { D with nx := P } σ H) (h2 : ∀ σ H, P σ H → u D σ H) : tSeq t u D σ H :=
  m { D with nx := P } { D with nx := u D } σ H ⟨h2, fun _ _ h => h, fun _ _ h => h, fun _ _ h => h⟩ h1
theorem rd_cutE {σ : L2.St} {H : Hp} {Q : VK} (P : VK) (m : MonE te) (h1 : te σ H P) (h2 : ∀ v H, P v H → Q v H) : te σ H Q := m _ _ _ _ h2 h1
theorem me_var {i : Nat} : MonE (tVar i) := fun σ H Q Q' h ⟨v, e, q⟩ => ⟨v, e, h _ _ q⟩
theorem me_c {v : V} : MonE (tC v) := fun σ H Q Q' h q => h _ _ q
theorem me_op (m : MonR r) (a : MonE ta) (b : MonE tb) : MonE (tOp r ta tb) := fun σ H Q Q' h q => a _ _ _ _ (fun _ _ z => b _ _ _ _ (fun _ _ z' => m _ _ _ _ _ h z') z) q
theorem me_un {r : V → Hp → VK → Prop} (m : MonU r) (a : MonE ta) : MonE (tUn r ta) := fun σ H Q Q' h q => a _ _ _ _ (fun _ _ z => m _ _ _ _ h z) q
theorem me_fld {K : PySem.W.Frag} {f : Str} (a : MonE ta) : MonE (tFld K ta f) := fun σ H Q Q' h q => a _ _ _ _ (fun _ _ ⟨x, C, dx, fs, v, e1, e2, e3, e4, e5, z⟩ => ⟨x, C, dx, fs, v, e1, e2, e3, e4, e5, h _ _ z⟩) q
theorem me_tup (a : MonA tr) : MonE (tTup tr) := fun σ H Q Q' h q => a _ _ _ _ (fun _ _ ⟨l, z⟩ => ⟨l, fun p hp => h _ _ (z p hp)⟩) q
theorem me_lst (a : MonA tr) : MonE (tLst tr) := fun σ H Q Q' h q => a _ _ _ _ (fun _ _ ⟨l, z⟩ => ⟨l, fun p hp => h _ _ (z p hp)⟩) q
theorem me_call {sp : Sp} {dvs : List V} {E : XK} (m : MonP sp) (a : MonA tr) : MonE (tCall sp dvs E tr) := fun σ H Q Q' h q => a _ _ _ _ (fun _ _ z => m _ _ _ _ _ h z) q
theorem me_meth {C : Addr} {n : Str} {sp : Sp} {dvs : List V} {E : XK} (m : MonP sp) (a : MonE ta) (b : MonA tr) : MonE (tMeth C n sp dvs E ta tr) := fun σ H Q Q' h q => a _ _ _ _ (fun _ _ ⟨x, dx, fs, e1, e2, e3, z⟩ => ⟨x, dx, fs, e1, e2, e3, b _ _ _ _ (fun _ _ y => m _ _ _ _ _ h y) z⟩) q
theorem me_cb {r : List V → Hp → VK → Prop} (m : MonC r) (a : MonA tr) : MonE (tCB r tr) := fun σ H Q Q' h q => a _ _ _ _ (fun _ _ z => m _ _ _ _ h z) q
theorem me_bm {K : PySem.W.Frag} {T : String} {r : V → List V → Hp → VK → Prop} (m : MonM r) (a : MonE ta) (b : MonA tr) : MonE (tBM K T r ta tr) := fun σ H Q Q' h q => a _ _ _ _ (fun _ _ ⟨y, z⟩ => ⟨y, b _ _ _ _ (fun _ _ z' => m _ _ _ _ _ h z') z⟩) q
theorem me_bm0 {K : PySem.W.Frag} {T : String} {r : V → List V → Hp → VK → Prop} (m : MonM r) (a : MonE ta) : MonE (tBM0 K T r ta) := fun σ H Q Q' h q => a _ _ _ _ (fun _ _ ⟨y, z⟩ => ⟨y, m _ _ _ _ _ h z⟩) q
theorem me_andV (a : MonE ta) (b : MonE tb) : MonE (tAndV ta tb) := fun σ H Q Q' h q => a _ _ _ _ (fun _ _ ⟨k, e, z⟩ => ⟨k, e, by cases k; exact h _ _ z; exact b _ _ _ _ h z⟩) q
theorem me_orV (a : MonE ta) (b : MonE tb) : MonE (tOrV ta tb) := fun σ H Q Q' h q => a _ _ _ _ (fun _ _ ⟨k, e, z⟩ => ⟨k, e, by cases k; exact b _ _ _ _ h z; exact h _ _ z⟩) q
theorem me_notV (a : MonE ta) : MonE (tNotV ta) := fun σ H Q Q' h q => a _ _ _ _ (fun _ _ ⟨k, e, z⟩ => ⟨k, e, h _ _ z⟩) q
theorem me_if (m : MonT c) (a : MonE ta) (b : MonE tb) : MonE (tIf c ta tb) := fun σ H Q Q' h q => m _ _ _ _ (fun k _ z => by cases k; exact b _ _ _ _ h z; exact a _ _ _ _ h z) q
theorem me_chain (m : MonR r) (m' : MonR r') (a : MonE ta) (b : MonE tb) (d : MonE tc) : MonE (tChain r r' ta tb tc) := fun σ H Q Q' h q =>
  a _ _ _ _ (fun _ _ z => b _ _ _ _ (fun _ _ z' => m _ _ _ _ _ (fun _ _ ⟨k, e, y⟩ => ⟨k, e, by cases k; exact h _ _ y; exact d _ _ _ _ (fun _ _ y' => m' _ _ _ _ _ h y') y⟩) z') z) q
theorem me_sl {rl : V → Option Int → Option Int → Hp → VK → Prop} {tl th : TO} (m : MonL rl) (a : MonE te) (b : MonO tl) (d : MonO th) : MonE (tSl rl te tl th) := fun σ H Q Q' h q => a _ _ _ _ (fun _ _ z => b _ _ _ _ (fun _ _ z => d _ _ _ _ (fun _ _ z => m _ _ _ _ _ _ h z) z) z) q
theorem me_dget {td ty : TE} (a : MonE td) (b : MonE ty) : MonE (tDGet td ty) := fun σ H Q Q' h q => a _ _ _ _ (fun _ _ z => b _ _ _ _ (fun _ _ ⟨x, v, e1, e2, z⟩ => ⟨x, v, e1, e2, h _ _ z⟩) z) q
theorem me_dget2 {td ty tx : TE} (a : MonE td) (b : MonE ty) (d : MonE tx) : MonE (tDGet2 td ty tx) := fun σ H Q Q' h q => a _ _ _ _ (fun _ _ ⟨x, e1, e2, z⟩ => ⟨x, e1, e2, b _ _ _ _ (fun _ _ z => d _ _ _ _ (fun _ _ ⟨o, e3, z⟩ => ⟨o, e3, h _ _ z⟩) z) z⟩) q
theorem me_din {td ty : TE} (a : MonE td) (b : MonE ty) : MonE (tDIn ty td) := fun σ H Q Q' h q => b _ _ _ _ (fun _ _ z => a _ _ _ _ (fun _ _ ⟨x, v, e1, e2, z⟩ => ⟨x, v, e1, e2, h _ _ z⟩) z) q
theorem me_dnotin {td ty : TE} (a : MonE td) (b : MonE ty) : MonE (tDNotIn ty td) := fun σ H Q Q' h q => b _ _ _ _ (fun _ _ z => a _ _ _ _ (fun _ _ ⟨x, v, e1, e2, z⟩ => ⟨x, v, e1, e2, h _ _ z⟩) z) q
theorem me_dsetd {td ty tx : TE} (a : MonE td) (b : MonE ty) (d : MonE tx) : MonE (tDSetd td ty tx) := fun σ H Q Q' h q =>
  a _ _ _ _ (fun _ _ ⟨x, e1, e2, z⟩ => ⟨x, e1, e2, b _ _ _ _ (fun _ _ z => d _ _ _ _ (fun _ _ ⟨kvs, k, e3, e4, e5, z1, z2⟩ => ⟨kvs, k, e3, e4, e5, fun v hv => h _ _ (z1 v hv), fun hv => h _ _ (z2 hv)⟩) z) z⟩) q
theorem mt_test' (a : MonE te) : MonT (tTest te) := fun σ H Q Q' h q => a _ _ _ _ (fun _ _ ⟨k, e, z⟩ => ⟨k, e, h _ _ z⟩) q
theorem mt_B (a : MonE te) : MonT (tB te) := fun σ H Q Q' h q => a _ _ _ _ (fun _ _ ⟨k, e, z⟩ => ⟨k, e, h _ _ z⟩) q
theorem mt_and (a : MonT c) (b : MonT c') : MonT (tAnd c c') := fun σ H Q Q' h q => a _ _ _ _ (fun k _ z => by cases k; exact h _ _ z; exact b _ _ _ _ h z) q
theorem mt_or (a : MonT c) (b : MonT c') : MonT (tOr c c') := fun σ H Q Q' h q => a _ _ _ _ (fun k _ z => by cases k; exact b _ _ _ _ h z; exact h _ _ z) q
theorem mt_not (a : MonT c) : MonT (tNot c) := fun σ H Q Q' h q => a _ _ _ _ (fun k _ z => h _ _ z) q
theorem ma_nil : MonA tNil := fun σ H Q Q' h q => h _ _ q
theorem ma_cons (a : MonE ta) (b : MonA tr) : MonA (tCons ta tr) := fun σ H Q Q' h q => a _ _ _ _ (fun _ _ z => b _ _ _ _ (fun _ _ y => h _ _ y) z) q
theorem mo_none : MonO tNoPart := fun σ H Q Q' h q => h _ _ q
theorem mo_some (a : MonE te) : MonO (tPart te) := fun σ H Q Q' h q => a _ _ _ _ (fun _ _ ⟨i, e, z⟩ => ⟨i, e, h _ _ z⟩) q
theorem mr_I0 {f : Int → Int → V} : MonR (rI0 f) := fun x y H Q Q' h ⟨i, j, a, b, q⟩ => ⟨i, j, a, b, h _ _ q⟩
theorem mr_I {C : Int → Int → Prop} {f : Int → Int → V} : MonR (rI C f) := fun x y H Q Q' h ⟨i, j, a, b, d, q⟩ => ⟨i, j, a, b, d, h _ _ q⟩
theorem mr_eq : MonR rEq := fun x y H Q Q' h ⟨a, q⟩ => ⟨a, h _ _ q⟩
theorem mr_ne : MonR rNe := fun x y H Q Q' h ⟨a, q⟩ => ⟨a, h _ _ q⟩
theorem mr_ixL {K : PySem.W.Frag} : MonR (rIxL K) := fun x y H Q Q' h ⟨p, xs, i, v, a, b, c, d, q⟩ => ⟨p, xs, i, v, a, b, c, d, h _ _ q⟩
theorem mr_ixT {K : PySem.W.Frag} : MonR (rIxT K) := fun x y H Q Q' h ⟨p, xs, i, v, a, b, c, d, q⟩ => ⟨p, xs, i, v, a, b, c, d, h _ _ q⟩
theorem mr_ixS : MonR rIxS := fun x y H Q Q' h ⟨p, xs, i, a, b, c, d, q⟩ => ⟨p, xs, i, a, b, c, d, h _ _ q⟩
theorem mr_cat : MonR rCat := fun x y H Q Q' h ⟨l, b, xs, zs, e1, e2, e3, e4, e5, q⟩ => ⟨l, b, xs, zs, e1, e2, e3, e4, e5, fun p hp => h _ _ (q p hp)⟩
theorem mr_in {K : PySem.W.Frag} {neg : Bool} : MonR (rIn K neg) := fun x y H Q Q' h ⟨p, xs, e1, e2, e3, e4, q⟩ => ⟨p, xs, e1, e2, e3, e4, h _ _ q⟩
theorem mr_isN : MonR (fun x y H Q => y = V.non ∧ Q (.bl (decide (x = .non))) H) := fun x y H Q Q' h ⟨a, q⟩ => ⟨a, h _ _ q⟩
theorem mr_notN : MonR (fun x y H Q => y = V.non ∧ Q (.bl (!decide (x = .non))) H) := fun x y H Q Q' h ⟨a, q⟩ => ⟨a, h _ _ q⟩
theorem mu_U {f : Int → V} : MonU (rU f) := fun x H Q Q' h ⟨i, a, q⟩ => ⟨i, a, h _ _ q⟩
theorem mc_len {K : PySem.W.Frag} : MonC (rLenS K) := fun x H Q Q' h ⟨p, ys, a, b, q⟩ => ⟨p, ys, a, b, h _ _ q⟩
theorem mc_isi {K : PySem.W.Frag} : MonC (rIsi K) := fun x H Q Q' h ⟨x', c, t, u, b, a1, a2, a3, a4, q⟩ => ⟨x', c, t, u, b, a1, a2, a3, a4, h _ _ q⟩
theorem mm_append : MonM rAppend := fun x y H Q Q' h ⟨l, xs, z, a, b, c, d, q⟩ => ⟨l, xs, z, a, b, c, d, h _ _ q⟩
theorem mg_name {i : Nat} : MonG (gName i) := fun v σ H Q Q' h q => h _ _ q
theorem mg_tup {K : PySem.W.Frag} {n : Nat} (m : MonGs gs) : MonG (gTup K n gs) := fun v σ H Q Q' h ⟨a, xs, e1, e2, e3, q⟩ => ⟨a, xs, e1, e2, e3, m _ _ _ _ _ h q⟩
theorem mgs_nil : MonGs gNil := fun v σ H Q Q' h ⟨e, q⟩ => ⟨e, h _ _ q⟩
theorem mgs_cons (a : MonG g) (b : MonGs gs) : MonGs (gCons g gs) := fun v σ H Q Q' h ⟨x, r, e, q⟩ => ⟨x, r, e, a _ _ _ _ _ (fun _ _ z => b _ _ _ _ _ h z) q⟩
theorem mi_L {K : PySem.W.Frag} (a : MonE te) : MonI (iList K te) := fun σ H Q Q' h q => a _ _ _ _ (fun _ _ ⟨x, e1, e2, z⟩ => ⟨x, e1, e2, h _ _ z⟩) q
theorem mi_T {K : PySem.W.Frag} (a : MonE te) : MonI (iTup K te) := fun σ H Q Q' h q => a _ _ _ _ (fun _ _ ⟨x, e1, e2, z⟩ => ⟨x, e1, e2, h _ _ z⟩) q
theorem mi_R1 (a : MonA tr) : MonI (iRng1 tr) := fun σ H Q Q' h q => a _ _ _ _ (fun _ _ ⟨j, e1, e2, e3, z⟩ => ⟨j, e1, e2, e3, h _ _ z⟩) q
theorem mi_R2 (a : MonA tr) : MonI (iRng2 tr) := fun σ H Q Q' h q => a _ _ _ _ (fun _ _ ⟨i, j, e1, e2, z⟩ => ⟨i, j, e1, e2, h _ _ z⟩) q
theorem mi_R3 (a : MonA tr) : MonI (iRng3 tr) := fun σ H Q Q' h q => a _ _ _ _ (fun _ _ ⟨i, j, c, n, e1, e2, z⟩ => ⟨i, j, c, n, e1, e2, h _ _ z⟩) q
theorem mi_E {K : PySem.W.Frag} (a : MonA tr) : MonI (iEnum K tr) := fun σ H Q Q' h q => a _ _ _ _ (fun _ _ ⟨x, xs, e1, e2, z⟩ => ⟨x, xs, e1, e2, h _ _ z⟩) q
theorem mi_S (a : MonE te) : MonI (iStr te) := fun σ H Q Q' h q => a _ _ _ _ (fun _ _ ⟨x, e1, z⟩ => ⟨x, e1, h _ _ z⟩) q
theorem mi_Z {K : PySem.W.Frag} (a : MonA tr) : MonI (iZip K tr) := fun σ H Q Q' h q => a _ _ _ _ (fun _ _ ⟨x, y, xs, ys, e1, e2, e3, z⟩ => ⟨x, y, xs, ys, e1, e2, e3, h _ _ z⟩) q
theorem EndsLe.seq {D D' : Ends} (h : EndsLe D D') {P P' : L2.St → Hp → Prop} (hp : ∀ σ H, P σ H → P' σ H) : EndsLe { D with nx := P } { D' with nx := P' } := ⟨hp, h.2.1, h.2.2.1, h.2.2.2⟩
theorem ms_next : MonS tNext := fun D D' σ H h q => h.1 _ _ q
theorem ms_seq (a : MonS t) (b : MonS u) : MonS (tSeq t u) := fun D D' σ H h q => a _ _ _ _ (h.seq fun _ _ z => b _ _ _ _ h z) q
theorem ms_asg (a : MonE te) (b : MonG g) : MonS (tAsg te g) := fun D D' σ H h q => a _ _ _ _ (fun _ _ z => b _ _ _ _ _ h.1 z) q
theorem ms_drop (a : MonE te) : MonS (tDrop te) := fun D D' σ H h q => a _ _ _ _ (fun _ _ z => h.1 _ _ z) q
theorem ms_ret (a : MonE te) : MonS (tRet te) := fun D D' σ H h q => a _ _ _ _ h.2.1 q
theorem ms_retN : MonS tRetN := fun D D' σ H h q => h.2.1 _ _ q
theorem ms_if (a : MonT c) (b : MonS t) (d : MonS u) : MonS (tIfS c t u) := fun D D' σ H h q => a _ _ _ _ (fun k _ z => by cases k; exact d _ _ _ _ h z; exact b _ _ _ _ h z) q
theorem ms_brk : MonS tBreak := fun D D' σ H h q => h.2.2.1 _ _ q
theorem ms_cont : MonS tCont := fun D D' σ H h q => h.2.2.2 _ _ q
theorem ms_never : MonS tNever := fun D D' σ H h q => q
theorem ms_dput {td ty tv : TE} (a : MonE td) (b : MonE ty) (d : MonE tv) : MonS (sDPut td ty tv) := fun D D' σ H h q => d _ _ _ _ (fun _ _ z => a _ _ _ _ (fun _ _ z => b _ _ _ _ (fun _ _ ⟨x, H4, e1, e2, z⟩ => ⟨x, H4, e1, e2, h.1 _ _ z⟩) z) z) q
theorem ms_fldS {K : PySem.W.Frag} {f : Str} (a : MonE ta) (b : MonE tb) : MonS (sFld K ta tb f) := fun D D' σ H h q => b _ _ _ _ (fun _ _ z => a _ _ _ _ (fun _ _ ⟨x, C, dx, fs, e1, e2, e3, e4, e5, z⟩ => ⟨x, C, dx, fs, e1, e2, e3, e4, e5, h.1 _ _ z⟩) z) q
theorem ms_for (a : MonI wi) (b : MonG g) (d : MonS t) : MonS (tFor wi g t) := fun D D' σ H h q =>
  a _ _ _ _ (fun J H1 ⟨W, w0, z⟩ => ⟨W, w0, fun i m σ H hw => by
    rcases z i m σ H hw with ⟨s, y⟩ | ⟨s, N, hN, y⟩
    · exact .inl ⟨s, h.1 _ _ y⟩
    · exact .inr ⟨s, N, hN, fun x H' hy => b _ _ _ _ _ (fun _ _ y' => d { D with nx := N, ct := N, bk := D.nx } { D' with nx := N, ct := N, bk := D'.nx } _ _ ⟨fun _ _ z => z, h.2.1, h.1, fun _ _ z => z⟩ y') (y x H' hy)⟩⟩) q
theorem ms_while (a : MonT c) (b : MonS t) : MonS (tWhile c t) := fun D D' σ H h ⟨W, w0, z⟩ => ⟨W, w0, fun m σ H hw => a _ _ _ _ (fun k H1 y => by
  cases k
  · exact h.1 _ _ y
  · obtain ⟨N, hN, y⟩ := y
    exact ⟨N, hN, b { D with nx := N, ct := N, bk := D.nx } { D' with nx := N, ct := N, bk := D'.nx } _ _ ⟨fun _ _ z => z, h.2.1, h.1, fun _ _ z => z⟩ y⟩) (z m σ H hw)⟩
theorem me_lc {te' : TE} {tt' : TT} {g' : TG} {vs : List Nat} (a : MonI wi) : MonE (tLc wi g' tt' te' vs) := fun σ H Q Q' h q => a _ _ _ _ (fun J H1 z D hD => by
  obtain ⟨W, w0, z⟩ := z D hD
  exact ⟨W, w0, fun i m H hw => (z i m H hw).imp (fun ⟨s, y⟩ => ⟨s, h _ _ y⟩) id⟩) q
theorem me_m1 {rm : V → List V → Hp → VK → Prop} (m : MonM rm) (a : MonE ta) (b : MonE tb) : MonE (tM1 rm ta tb) := fun σ H Q Q' h q => a _ _ _ _ (fun _ _ ⟨e, z⟩ => ⟨e, b _ _ _ _ (fun _ _ z' => m _ _ _ _ _ h z') z⟩) q
theorem mm_split : MonM (fun x xs H Q => ∃ a b, x = .str a ∧ xs = [.str b] ∧ (b.length == 0) = false ∧ a.length + 2 ≤ sizeLine ∧ rNewStrs (Txt.split a b) H Q) := fun x y H Q Q' h ⟨a, b, e1, e2, e3, e4, q⟩ => ⟨a, b, e1, e2, e3, e4, fun p hp => h _ _ (q p hp)⟩
end
end JF

local macro_rules | `(tactic| walk_at "mono1") => `(tactic| first | assumption | (with_reducible apply JF.me_var) | (with_reducible apply JF.me_c) | (with_reducible apply JF.me_op) | (with_reducible apply JF.me_un) | (with_reducible apply JF.me_fld) | (with_reducible apply JF.me_tup) | (with_reducible apply JF.me_lst) | (with_reducible apply JF.me_call) | (with_reducible apply JF.me_meth) | (with_reducible apply JF.me_cb) | (with_reducible apply JF.me_bm) | (with_reducible apply JF.me_bm0) | (with_reducible apply JF.me_andV) | (with_reducible apply JF.me_orV) | (with_reducible apply JF.me_notV) | (with_reducible apply JF.me_if) | (with_reducible apply JF.me_chain) | (with_reducible apply JF.me_sl) | (with_reducible apply JF.me_dget) | (with_reducible apply JF.me_dget2) | (with_reducible apply JF.me_din) | (with_reducible apply JF.me_dnotin) | (with_reducible apply JF.me_dsetd) | (with_reducible apply JF.me_lc) | (with_reducible apply JF.me_m1) | (with_reducible exact JF.mm_split) | (with_reducible apply JF.mt_test') | (with_reducible apply JF.mt_B) | (with_reducible apply JF.mt_and) | (with_reducible apply JF.mt_or) | (with_reducible apply JF.mt_not) | (with_reducible apply JF.ma_nil) | (with_reducible apply JF.ma_cons) | (with_reducible apply JF.mo_none) | (with_reducible apply JF.mo_some) | (with_reducible apply JF.mr_I0) | (with_reducible apply JF.mr_I) | (with_reducible apply JF.mr_eq) | (with_reducible apply JF.mr_ne) | (with_reducible apply JF.mr_ixL) | (with_reducible apply JF.mr_ixT) | (with_reducible apply JF.mr_ixS) | (with_reducible apply JF.mr_cat) | (with_reducible apply JF.mr_in) | (with_reducible apply JF.mr_isN) | (with_reducible apply JF.mr_notN) | (with_reducible apply JF.mu_U) | (with_reducible apply JF.mc_len) | (with_reducible apply JF.mc_isi) | (with_reducible apply JF.mm_append) | (with_reducible apply JF.mg_name) | (with_reducible apply JF.mg_tup) | (with_reducible apply JF.mgs_nil) | (with_reducible apply JF.mgs_cons) | (with_reducible apply JF.mi_L) | (with_reducible apply JF.mi_T) | (with_reducible apply JF.mi_R1) | (with_reducible apply JF.mi_R2) | (with_reducible apply JF.mi_R3) | (with_reducible apply JF.mi_E) | (with_reducible apply JF.mi_S) | (with_reducible apply JF.mi_Z) | (with_reducible apply JF.ms_next) | (with_reducible apply JF.ms_seq) | (with_reducible apply JF.ms_asg) | (with_reducible apply JF.ms_drop) | (with_reducible apply JF.ms_ret) | (with_reducible apply JF.ms_retN) | (with_reducible apply JF.ms_if) | (with_reducible apply JF.ms_brk) | (with_reducible apply JF.ms_cont) | (with_reducible apply JF.ms_never) | (with_reducible apply JF.ms_dput) | (with_reducible apply JF.ms_fldS) | (with_reducible apply JF.ms_for) | (with_reducible apply JF.ms_while))
local macro_rules | `(tactic| walk_at "mono") => `(tactic| repeat' walk_at "mono1")
/-! ### a grove in the heap -/
namespace JF
open PySem PySem.Spec PyProof.Rows L2
theorem nodup_sub_len {α : Type} [DecidableEq α] : ∀ (l m : List α), l.Nodup → (∀ x ∈ l, x ∈ m) → l.length ≤ m.length
  | [], m, _, _ => Nat.zero_le _
  | x :: l, m, h, hs => by
    rw [List.nodup_cons] at h
    have hx : x ∈ m := hs x List.mem_cons_self
    have ih := nodup_sub_len l (m.erase x) h.2 fun y hy => (List.mem_erase_of_ne (fun e => h.1 (by rw [← e]; exact hy))).mpr (hs y (List.mem_cons_of_mem _ hy))
    rw [List.length_erase_of_mem hx] at ih
    have : 0 < m.length := List.length_pos_of_mem hx
    show l.length + 1 ≤ m.length
    omega
theorem states_len {l : List Int} (h : l.Nodup) (hs : ∀ x ∈ l, 0 ≤ x ∧ x ≤ 7) : l.length ≤ 8 :=
  nodup_sub_len l [0, 1, 2, 3, 4, 5, 6, 7] h fun x hx => by
    have := hs x hx
    simp only [List.mem_cons, List.not_mem_nil, or_false]
    omega
structure GA where
  g : Addr
  dx : Addr
  dn : Addr
  dm : Addr
  dl : Addr
  dv : Addr
  ds : Addr
  dp : Addr
def GA.flds (a : GA) : List (Str × V) := [("numbers", .ref a.dn), ("made", .ref a.dm), ("levels", .ref a.dl), ("lives", .ref a.dv), ("spans", .ref a.ds), ("plain", .ref a.dp)]
def GA.m5 (a : GA) : List Addr := [a.dn, a.dm, a.dl, a.dv, a.ds]
def GA.muts (a : GA) (rows : List (Int × Addr)) : List Addr := a.m5 ++ a.dp :: rows.map (·.2)
/-- a span as a value -/
def SpanV (H : Hp) (v : V) : Option Box → Prop
  | none => v = .non
  | some b => ∃ p, v = .ref p ∧ H p = some (.tup [.int b.1, .int b.2.1, .int b.2.2.1, .int b.2.2.2])
theorem SpanV.keep {H H' : Hp} {v : V} {o : Option Box} (h : SpanV H v o) (k : ∀ b xs, H b = some (.tup xs) → H' b = some (.tup xs)) : SpanV H' v o := by
  cases o with
  | none => exact h
  | some b =>
    obtain ⟨p, e, hp⟩ := h
    exact ⟨p, e, k _ _ hp⟩
/-- what the lists of a grove hold -/
structure GData (H : Hp) (a : GA) (q : List Sq) (tups : List Addr) (mk : List (List Int)) (spt : List V) : Prop where
  hn : H a.dn = some (.dT (kvsOf mk 0))
  hm : H a.dm = some (.lst (tups.map V.ref))
  hl : H a.dl = some (.lst (q.map fun S => V.int (S.level : Int)))
  hv : H a.dv = some (.lst (q.map fun S => V.int S.lives))
  hs : H a.ds = some (.lst spt)
  lt : tups.length = q.length
  lm : mk.length = q.length
  ls : spt.length = q.length
  tu : ∀ (i : Nat) t m, tups[i]? = some t → mk[i]? = some m → H t = some (.tup (m.map V.int))
  sp : ∀ (i : Nat) v S, spt[i]? = some v → q[i]? = some S → SpanV H v S.span
  md : ∀ (i : Nat) m S, mk[i]? = some m → q[i]? = some S → Made q S m
structure GAt (C : Addr) (H : Hp) (a : GA) (rows : List (Int × Addr)) (q : List Sq) : Prop where
  ob : H a.g = some (.ins C a.dx a.flds)
  da : ∃ tups mk spt, GData H a q tups mk spt
  wf : ∀ S ∈ q, S.wf
  qn : q.Nodup
  pl : H a.dp = some (.dK (rows.map fun sa => ((Sum.inl sa.1 : Key), V.ref sa.2)))
  nd : (a.g :: a.muts rows).Nodup
  rn : (rows.map (·.1)).Nodup
  rs : ∀ s ∈ rows.map (·.1), 0 ≤ s ∧ s ≤ 7
  ro : ∀ s b, (s, b) ∈ rows → ∃ ns : List Nat, H b = some (.lst (ns.map fun (n : Nat) => V.int (n : Int))) ∧ ∀ (i : Nat) n, ns[i]? = some n → q[n]? = some (Sq.even i s)
/-- all but what stands at these addresses is as it was -/
def Fr (S : List Addr) (H H' : Hp) : Prop := ∀ b o, H b = some o → b ∉ S → H' b = some o
theorem Fr.refl (S : List Addr) (H : Hp) : Fr S H H := fun _ _ h _ => h
theorem Fr.trans {S : List Addr} {H H1 H2 : Hp} (x : Fr S H H1) (y : Fr S H1 H2) : Fr S H H2 := fun b o h n => y b o (x b o h n) n
theorem Fr.mono {S S' : List Addr} {H H' : Hp} (x : Fr S H H') (h : ∀ b ∈ S, b ∈ S') : Fr S' H H' := fun b o e n => x b o e fun z => n (h b z)
theorem fr_of {S : List Addr} {H H' : Hp} (x : Same H H') : Fr S H H' := fun b o e _ => x b o e
def HO.still : HO → Prop
  | .tup _ | .ins _ _ _ | .own _ => True
  | _ => False
/-- a grove stands where its own lists, the tuples and the instances are kept -/
theorem GAt.keep {C : Addr} {H H' : Hp} {a : GA} {rows : List (Int × Addr)} {q : List Sq} (G : GAt C H a rows q) (k : ∀ b o, H b = some o → HO.still o ∨ b ∈ a.muts rows → H' b = some o) : GAt C H' a rows q := by
  obtain ⟨tups, mk, spt, D⟩ := G.da
  have mem : ∀ b, b ∈ a.m5 → b ∈ a.muts rows := fun b h => List.mem_append_left _ h
  refine ⟨k _ _ G.ob (.inl trivial), ⟨tups, mk, spt, k _ _ D.hn (.inr (mem _ (by simp [GA.m5]))), k _ _ D.hm (.inr (mem _ (by simp [GA.m5]))), k _ _ D.hl (.inr (mem _ (by simp [GA.m5]))), k _ _ D.hv (.inr (mem _ (by simp [GA.m5]))), k _ _ D.hs (.inr (mem _ (by simp [GA.m5]))), D.lt, D.lm, D.ls,
    fun i t m h1 h2 => k _ _ (D.tu i t m h1 h2) (.inl trivial), fun i v S h1 h2 => (D.sp i v S h1 h2).keep fun b xs e => k _ _ e (.inl trivial), D.md⟩, G.wf, G.qn, k _ _ G.pl (.inr (by simp [GA.muts])), G.nd, G.rn, G.rs, fun s b h => ?_⟩
  obtain ⟨ns, h1, h2⟩ := G.ro s b h
  refine ⟨ns, k _ _ h1 (.inr ?_), h2⟩
  unfold GA.muts
  exact List.mem_append_right _ (List.mem_cons_of_mem _ (List.mem_map_of_mem (f := fun sa : Int × Addr => sa.2) h))
theorem GAt.same {C : Addr} {H H' : Hp} {a : GA} {rows : List (Int × Addr)} {q : List Sq} (G : GAt C H a rows q) (s : Same H H') : GAt C H' a rows q := G.keep fun b o e _ => s b o e
/-- a new object is laid -/
theorem same_upd {H : Hp} {p : Addr} {o : HO} (h : H p = none) : Same H (upd H p o) := fun b u e => by rw [upd_ne (ne_of_none e h)]; exact e
/-- a list, a dict of the asker's own is changed -/
theorem GAt.upd {C : Addr} {H : Hp} {a : GA} {rows : List (Int × Addr)} {q : List Sq} {p : Addr} {o : HO} (G : GAt C H a rows q) (hp : ∀ u, H p = some u → ¬ HO.still u) (hn : p ∉ a.muts rows) : GAt C (upd H p o) a rows q :=
  G.keep fun b u e h => by
    rw [upd_ne]
    · exact e
    · rintro rfl
      rcases h with h | h
      · exact hp u e h
      · exact hn h
/-- a grove goes on: what was is as it was, squares were added -/
structure GStep (C : Addr) (H : Hp) (a : GA) (rows : List (Int × Addr)) (q : List Sq) (H' : Hp) (rows' : List (Int × Addr)) (q' : List Sq) : Prop where
  gat : GAt C H' a rows' q'
  pre : q <+: q'
  fr : Fr (a.muts rows) H H'
  new : ∀ b ∈ a.muts rows', b ∈ a.muts rows ∨ H b = none
theorem GStep.refl {C : Addr} {H : Hp} {a : GA} {rows : List (Int × Addr)} {q : List Sq} (G : GAt C H a rows q) : GStep C H a rows q H rows q := ⟨G, List.prefix_refl _, Fr.refl _ _, fun _ h => .inl h⟩
theorem GStep.trans {C : Addr} {H H1 H2 : Hp} {a : GA} {rows r1 r2 : List (Int × Addr)} {q q1 q2 : List Sq} (x : GStep C H a rows q H1 r1 q1) (y : GStep C H1 a r1 q1 H2 r2 q2) : GStep C H a rows q H2 r2 q2 := by
  refine ⟨y.gat, x.pre.trans y.pre, fun b o e n => ?_, fun b h => ?_⟩
  · refine y.fr b o (x.fr b o e n) fun z => ?_
    rcases x.new b z with z | z
    · exact n z
    · rw [e] at z; cases z
  · rcases y.new b h with z | z
    · exact x.new b z
    · by_cases hb : b ∈ a.muts rows
      · exact .inl hb
      · right
        cases q : H b with
        | none => rfl
        | some o =>
          rw [x.fr b o q hb] at z
          cases z
/-- the asker's own things are kept, and stay the asker's own -/
theorem GStep.own {C : Addr} {H H1 : Hp} {a : GA} {rows r1 : List (Int × Addr)} {q q1 : List Sq} (x : GStep C H a rows q H1 r1 q1) {b : Addr} {o : HO} (h : H b = some o) (n : b ∉ a.muts rows) : H1 b = some o ∧ b ∉ a.muts r1 :=
  ⟨x.fr b o h n, fun z => (x.new b z).elim n fun z => by rw [h] at z; cases z⟩
theorem pre_get {q q' : List Sq} (h : q <+: q') {n : Nat} {S : Sq} (e : q[n]? = some S) : q'[n]? = some S := by
  obtain ⟨t, rfl⟩ := h
  exact getElem?_app e t
theorem ne_app {H : Hp} {b : Addr} {o : HO} {S : List Addr} (h : H b = some o) (hs : ∀ c ∈ S, ∀ u, H c = some u → o ≠ u) (hn : ∀ c ∈ S, ∃ u, H c = some u) : b ∉ S := fun z => by
  obtain ⟨u, e⟩ := hn b z
  refine hs b z u e ?_
  rw [h] at e
  exact Option.some.inj e
/-- a tuple is none of a grove's own lists -/
theorem GAt.tup_out {C : Addr} {H : Hp} {a : GA} {rows : List (Int × Addr)} {q : List Sq} (G : GAt C H a rows q) {b : Addr} {xs : List V} (h : H b = some (.tup xs)) : b ∉ a.muts rows := by
  obtain ⟨tups, mk, spt, D⟩ := G.da
  intro z
  unfold GA.muts GA.m5 at z
  simp only [List.cons_append, List.nil_append, List.mem_cons, List.mem_map] at z
  rcases z with rfl | rfl | rfl | rfl | rfl | rfl | ⟨sa, hm, rfl⟩
  · rw [D.hn] at h; cases h
  · rw [D.hm] at h; cases h
  · rw [D.hl] at h; cases h
  · rw [D.hv] at h; cases h
  · rw [D.hs] at h; cases h
  · rw [G.pl] at h; cases h
  · obtain ⟨ns, e, _⟩ := G.ro sa.1 sa.2 hm
    rw [e] at h; cases h
/-- what is new is none of them -/
theorem GAt.new_out {C : Addr} {H : Hp} {a : GA} {rows : List (Int × Addr)} {q : List Sq} (G : GAt C H a rows q) {b : Addr} (h : H b = none) : b ∉ a.muts rows := by
  obtain ⟨tups, mk, spt, D⟩ := G.da
  intro z
  unfold GA.muts GA.m5 at z
  simp only [List.cons_append, List.nil_append, List.mem_cons, List.mem_map] at z
  rcases z with rfl | rfl | rfl | rfl | rfl | rfl | ⟨sa, hm, rfl⟩
  · rw [D.hn] at h; cases h
  · rw [D.hm] at h; cases h
  · rw [D.hl] at h; cases h
  · rw [D.hv] at h; cases h
  · rw [D.hs] at h; cases h
  · rw [G.pl] at h; cases h
  · obtain ⟨ns, e, _⟩ := G.ro sa.1 sa.2 hm
    rw [e] at h; cases h
end JF

/-! ### the grove's small defs -/
namespace JF
open PySem PySem.Spec PyProof.Rows L2
section
variable {P : Program} {w : World} {K : PySem.W.Frag} {mg : Str → Option Value} {base : Heap}
/-- is_whole of a whole number, a truth, a text, None -/
def wholeV : V → Bool
  | .int _ => true
  | _ => false
def sp_is_whole : Sp := fun vs H Q _ => ∃ x : V, vs = [x] ∧ ((∃ i, x = .int i) ∨ (∃ b, x = .bl b) ∨ (∃ z, x = .str z) ∨ x = .non) ∧ Q (.bl (wholeV x)) H
theorem isi_ty {H : Hp} {Q : VK} {x : V} {a b : String} {r : Bool} (h : TyX K H x (.type a)) (k : kitB a b = some r) (q : Q (.bl r) H) : rIsi K [x, .ty b] H Q :=
  ⟨x, .ty b, _, _, r, rfl, .ty b, h, kit_ty k, q⟩
theorem ok_is_whole (T : Env fa fn K mg) : Good P w K mg base CX0 1 ("is_whole", none) ["thing"] sp_is_whole := by
  refine good_mk T 0 (d := d_is_whole) (N := ["thing"]) (ps := ["thing"]) rfl rfl sc_is_whole (fun _ _ _ _ _ _ us hl => match us, hl with | [_], _ => rfl) (fun vs H Q E h => ?_) (fun f cdv A outer s H vs Q E hr h => ?_)
  · obtain ⟨x, rfl, _⟩ := h; rfl
  · obtain ⟨x, rfl, hx, k⟩ := h
    refine ⟨_, (pss_one (ps_ret (pe_and (pe_callB (call_isiK K rfl) (by rfl) (T.free 1) (by decide +kernel) (pa_cons (pv 0) (pa_cons (pe_bltn (v := V.ty "int") rfl (T.free 2) (by decide +kernel) rfl) pa_nil))) (pe_one (pe_not (pe_callB (call_isiK K rfl) (by rfl) (T.free 1) (by decide +kernel) (pa_cons (pv 0) (pa_cons (pe_bltn (v := V.ty "bool") rfl (T.free 0) (by decide +kernel) rfl) pa_nil)))))))), ?_⟩
    walk_at "rd"
    rcases hx with ⟨i, rfl⟩ | ⟨b, rfl⟩ | ⟨z, rfl⟩ | rfl
    · refine isi_ty (.base (.int i)) (by decide +kernel : kitB "int" "int" = some true) ?_
      walk_at "rd"
      refine isi_ty (.base (.int i)) (by decide +kernel : kitB "int" "bool" = some false) ?_
      walk_at "rd"
      exact k
    · refine isi_ty (.base (.bl b)) (by decide +kernel : kitB "bool" "int" = some true) ?_
      walk_at "rd"
      refine isi_ty (.base (.bl b)) (by decide +kernel : kitB "bool" "bool" = some true) ?_
      walk_at "rd"
      exact k
    · refine isi_ty (.base (.str z)) (by decide +kernel : kitB "str" "int" = some false) ?_
      walk_at "rd"
      exact k
    · refine isi_ty (.base .non) (by decide +kernel : kitB "NoneType" "int" = some false) ?_
      walk_at "rd"
      exact k
/-! ### a state -/
def stateV : V → Bool
  | .int i => decide (0 ≤ i) && decide (i ≤ 7)
  | _ => false
theorem stateV_ok {s : Int} (h0 : 0 ≤ s) (h7 : s ≤ 7) : stateV (.int s) = true := by show (decide (0 ≤ s) && decide (s ≤ 7)) = true; rw [decide_eq_true h0, decide_eq_true h7]; rfl
def sp_is_state : Sp := fun vs H Q _ => ∃ x : V, vs = [x] ∧ ((∃ i, x = .int i) ∨ (∃ b, x = .bl b) ∨ (∃ z, x = .str z) ∨ x = .non) ∧ Q (.bl (stateV x)) H
theorem ok_is_state (T : Env fa fn K mg) : Good P w K mg base CX0 2 ("is_state", none) ["thing"] sp_is_state := by
  have G_is_whole := ok_is_whole (P := P) (w := w) (base := base) T
  refine good_mk T 4 (d := d_is_state) (N := ["thing"]) (ps := ["thing"]) rfl rfl sc_is_state (fun _ _ _ _ _ _ us hl => match us, hl with | [_], _ => rfl) (fun vs H Q E h => ?_) (fun f cdv A outer s H vs Q E hr h => ?_)
  · obtain ⟨x, rfl, _⟩ := h; rfl
  · obtain ⟨x, rfl, hx, k⟩ := h
    refine ⟨_, (pss_one (ps_ret (pe_and (pe_cgK K rfl G_is_whole (hr.mono (by decide)) (T.glo 12) (pa_cons (pv 0) pa_nil)) (pe_one (pe_chain op_le op_le pe_int (pv 0) pe_int))))), ?_⟩
    walk_at "rd"
    refine ⟨x, rfl, hx, ?_⟩
    walk_at "rd"
    rcases hx with ⟨i, rfl⟩ | ⟨b, rfl⟩ | ⟨z, rfl⟩ | rfl
    · refine iteT ?_
      walk_at "rd"
      have k' : Q (.bl (decide (0 ≤ i) && decide (i ≤ 7))) H := k
      by_cases h0 : 0 ≤ i
      · rw [decide_eq_true h0] at k' ⊢
        walk_at "rd"
        exact k'
      · rw [decide_eq_false h0] at k' ⊢
        walk_at "rd"
        exact k'
    · refine iteF ?_
      exact k
    · refine iteF ?_
      exact k
    · refine iteF ?_
      exact k
/-! ### boxes -/
def sp_round_both : Sp := fun vs H Q _ => ∃ (v : V) (o : Option Box) (p : Addr) (b : Box), vs = [v, .ref p] ∧ SpanV H v o ∧ SpanV H (.ref p) (some b) ∧ ∀ H' u, Same H H' → SpanV H' u (some (rb o b)) → Q u H'
theorem min_if (a b : Int) : (if b < a then b else a) = min a b := by rw [Int.min_def]; split <;> split <;> omega
theorem max_if (a b : Int) : (if b > a then b else a) = max a b := by rw [Int.max_def]; split <;> split <;> omega
theorem ok_round_both (T : Env fa fn K mg) : Good P w K mg base CX0 1 ("round_both", none) ["one", "other"] sp_round_both := by
  refine good_mk T 2 (d := d_round_both) (N := ["one", "other", "left", "top", "right", "low"]) (ps := ["one", "other"]) rfl rfl sc_round_both (fun _ _ _ _ _ _ us hl => match us, hl with | [_, _], _ => rfl) (fun vs H Q E h => ?_) (fun f cdv A outer s H vs Q E hr h => ?_)
  · obtain ⟨v, o, p, b, rfl, _⟩ := h; rfl
  · obtain ⟨v, o, p, b, rfl, hv, ⟨p', e, hp⟩, k⟩ := h
    cases e
    refine ⟨_, (pss_cons (ps_if (pt_cmpR op_isN (pv 0) pe_non (nomark _)) (pss_one (ps_ret (pv 1))) pss_nil)
      (pss_cons (ps_set (i := 2) sc_round_both.nd rfl (Or.inl rfl) (pe_callB (call_min2 rfl) (by rfl) (T.free 8) (by decide +kernel) (pa_cons (pe_ix (ix_tupK K rfl) (pv 0) pe_int (fun _ _ => rfl)) (pa_cons (pe_ix (ix_tupK K rfl) (pv 1) pe_int (fun _ _ => rfl)) pa_nil))))
      (pss_cons (ps_set (i := 3) sc_round_both.nd rfl (Or.inl rfl) (pe_callB (call_min2 rfl) (by rfl) (T.free 8) (by decide +kernel) (pa_cons (pe_ix (ix_tupK K rfl) (pv 0) pe_int (fun _ _ => rfl)) (pa_cons (pe_ix (ix_tupK K rfl) (pv 1) pe_int (fun _ _ => rfl)) pa_nil))))
      (pss_cons (ps_set (i := 4) sc_round_both.nd rfl (Or.inl rfl) (pe_callB (call_max2 rfl) (by rfl) (T.free 9) (by decide +kernel) (pa_cons (pe_op op_add (pe_ix (ix_tupK K rfl) (pv 0) pe_int (fun _ _ => rfl)) (pe_ix (ix_tupK K rfl) (pv 0) pe_int (fun _ _ => rfl))) (pa_cons (pe_op op_add (pe_ix (ix_tupK K rfl) (pv 1) pe_int (fun _ _ => rfl)) (pe_ix (ix_tupK K rfl) (pv 1) pe_int (fun _ _ => rfl))) pa_nil))))
      (pss_cons (ps_set (i := 5) sc_round_both.nd rfl (Or.inl rfl) (pe_callB (call_max2 rfl) (by rfl) (T.free 9) (by decide +kernel) (pa_cons (pe_op op_add (pe_ix (ix_tupK K rfl) (pv 0) pe_int (fun _ _ => rfl)) (pe_ix (ix_tupK K rfl) (pv 0) pe_int (fun _ _ => rfl))) (pa_cons (pe_op op_add (pe_ix (ix_tupK K rfl) (pv 1) pe_int (fun _ _ => rfl)) (pe_ix (ix_tupK K rfl) (pv 1) pe_int (fun _ _ => rfl))) pa_nil))))
      (pss_one (ps_ret (pe_tup (pa_cons (pv 2) (pa_cons (pv 3) (pa_cons (pe_op op_sub (pv 4) (pv 2)) (pa_cons (pe_op op_sub (pv 5) (pv 3)) pa_nil)))))))))))), ?_⟩
    walk_at "rd"
    cases o with
    | none =>
      have e : v = .non := hv
      subst e
      refine iteT ?_
      walk_at "rd"
      exact k H _ (Same.refl H) ⟨p, rfl, hp⟩
    | some a =>
      obtain ⟨q, rfl, hq⟩ := hv
      refine iteF ?_
      walk_at "rd"
      refine rd_new (hn := by show 4 ≤ sizeLine; decide) fun t ht => ?_
      walk_at "rd"
      refine k _ _ (fun b o e => by rw [upd_ne (ne_of_none e ht)]; exact e) ⟨t, rfl, ?_⟩
      rw [upd_same]
      simp only [rb, min_if, max_if]
/-! ### the span of four -/
def acc4 (half : Int) (os : List (Option Box)) : Nat → Option Box
  | 0 => none
  | k + 1 => r4step half (k : Int) (acc4 half os k) (os.getD k none)
def sp_round_four : Sp := fun vs H Q _ => ∃ (p : Addr) (us : List V) (os : List (Option Box)) (half : Int), vs = [.ref p, .int half] ∧ H p = some (.lst us) ∧ us.length = 4 ∧ os.length = 4 ∧ (∀ (i : Nat) v o, us[i]? = some v → os[i]? = some o → SpanV H v o) ∧
  0 ≤ half ∧ half < 2 ^ 64 ∧ ∀ H' u, Same H H' → SpanV H' u (acc4 half os 4) → Q u H'
theorem half_ok {h x : Int} (h0 : 0 ≤ h) (h1 : h < 2 ^ 64) (x0 : 0 ≤ x) (x1 : x < 4) : CMulW h x := by
  have e1 : (2 : Int) ^ 64 ≤ 2 ^ 2000 := by decide +kernel
  have e2 : (4 : Int) ≤ 2 ^ 2000 := by decide +kernel
  exact mulW_of (by omega) (by omega) (by omega) (by omega)
theorem ok_round_four (T : Env fa fn K mg) : Good P w K mg base CX0 2 ("round_four", none) ["spans", "half"] sp_round_four := by
  have G_round_both := ok_round_both (P := P) (w := w) (base := base) T
  refine good_mk T 3 (d := d_round_four) (N := ["spans", "half", "found", "at", "span", "left", "top"]) (ps := ["spans", "half"]) rfl rfl sc_round_four (fun _ _ _ _ _ _ us hl => match us, hl with | [_, _], _ => rfl) (fun vs H Q E h => ?_) (fun f cdv A outer s H vs Q E hr h => ?_)
  · obtain ⟨p, us, os, half, rfl, _⟩ := h; rfl
  · obtain ⟨p, us, os, half, rfl, hp, hu, ho, hs, h0, h1, k⟩ := h
    refine ⟨_, (pss_cons (ps_set (i := 2) sc_round_four.nd rfl (Or.inl rfl) pe_non)
      (pss_cons (ps_for PassesOwn.never rfl (pi_enum (by rfl) (T.free 10) (pa_cons (pv 0) pa_nil)) (pg_tup rfl (pgs_cons (pg_name (i := 3) sc_round_four.nd rfl (Or.inl rfl)) (pgs_cons (pg_name (i := 4) sc_round_four.nd rfl (Or.inl rfl)) pgs_nil))) (pss_one (ps_if (pt_cmpR op_notN (pv 4) pe_non (nomark _)) (pss_cons (ps_set (i := 5) sc_round_four.nd rfl (Or.inl rfl) (pe_op op_add (pe_ix (ix_tupK K rfl) (pv 4) pe_int (fun _ _ => rfl)) (pe_op op_mulW (pv 1) (pe_op op_mod (pv 3) pe_int))))
      (pss_cons (ps_set (i := 6) sc_round_four.nd rfl (Or.inl rfl) (pe_op op_add (pe_ix (ix_tupK K rfl) (pv 4) pe_int (fun _ _ => rfl)) (pe_op op_mulW (pv 1) (pe_op op_fdivW (pv 3) pe_int))))
      (pss_one (ps_set (i := 2) sc_round_four.nd rfl (Or.inl rfl) (pe_cgK K rfl G_round_both (hr.mono (by decide)) (T.glo 11) (pa_cons (pv 2) (pa_cons (pe_tup (pa_cons (pv 5) (pa_cons (pv 6) (pa_cons (pe_ix (ix_tupK K rfl) (pv 4) pe_int (fun _ _ => rfl)) (pa_cons (pe_ix (ix_tupK K rfl) (pv 4) pe_int (fun _ _ => rfl)) pa_nil))))) pa_nil))))))) pss_nil)))
      (pss_one (ps_ret (pv 2))))), ?_⟩
    walk_at "rd"
    refine ⟨p, us, rfl, SqL.of hp, ?_⟩
    refine for_it (walk_enum (xs := us)) (fun i σ H' => ∃ f x1 x2 x3 x4, σ = [some (.ref p), some (.int half), some f, x1, x2, x3, x4] ∧ Same H H' ∧ SpanV H' f (acc4 half os i)) ?_ ?_ ?_ ?_
    · exact ⟨.non, none, none, none, none, rfl, Same.refl H, rfl⟩
    · rintro i σ H' _ ⟨_, _, _, _, _, _, s1, _⟩
      exact SqL.of (s1 _ _ hp)
    · rintro i x σ H1 H2 hi ⟨f, x1, x2, x3, x4, rfl, s1, hf⟩ ⟨t, x, y, rfl, ht, rfl, ex, ey⟩
      cases ex
      have hu2 : us[i]? = some y := ey
      have s2 : Same H1 (upd H1 t (.tup [V.int (i : Nat), y])) := fun b o e => by rw [upd_ne (ne_of_none e ht)]; exact e
      have hT : (upd H1 t (.tup [V.int (i : Nat), y])) t = some (.tup [V.int (i : Nat), y]) := upd_same
      walk_at "rd"
      have hi4 : i < 4 := by omega
      obtain ⟨o, ho2⟩ : ∃ o, os[i]? = some o := ⟨os[i], by simp [ho, hi4]⟩
      have eo : os.getD i none = o := by simp [List.getD, ho2]
      have hy := hs i y o hu2 ho2
      cases o with
      | none =>
        have e : y = .non := hy
        subst e
        refine iteF ?_
        walk_at "rd"
        refine ⟨f, _, _, x3, x4, rfl, s1.trans s2, ?_⟩
        show SpanV _ f (r4step half (i : Int) (acc4 half os i) (os.getD i none))
        rw [eo]
        exact hf.keep fun b xs e => s2 _ _ e
      | some b =>
        obtain ⟨q, rfl, hq⟩ := hy
        have hq2 := s2 _ _ (s1 _ _ hq)
        refine iteT ?_
        walk_at "rd"
        refine rd_I (half_ok h0 h1 (by omega) (by omega)) ?_
        walk_at "rd"
        refine rd_I (half_ok h0 h1 (by omega) (by omega)) ?_
        walk_at "rd"
        refine rd_new (hn := by show 4 ≤ sizeLine; decide) fun t2 ht2 => ?_
        have s3 : ∀ o, Same (upd H1 t (.tup [V.int (i : Nat), .ref q])) (upd (upd H1 t (.tup [V.int (i : Nat), .ref q])) t2 o) := fun o b' o' e => by rw [upd_ne (ne_of_none e ht2)]; exact e
        walk_at "rd"
        refine ⟨f, acc4 half os i, t2, (b.1 + half * ((i : Int) % 2), b.2.1 + half * ((i : Int) / 2), b.2.2.1, b.2.2.2), rfl, (hf.keep fun b xs e => s3 _ _ _ (s2 _ _ e)), ⟨t2, rfl, upd_same⟩, fun H3 u s4 hu3 => ?_⟩
        walk_at "rd"
        refine ⟨u, _, _, _, _, rfl, (s1.trans s2).trans ((s3 _).trans s4), ?_⟩
        show SpanV _ u (r4step half (i : Int) (acc4 half os i) (os.getD i none))
        rw [eo]
        exact hu3
    · rintro σ H' ⟨f, x1, x2, x3, x4, rfl, s1, hf⟩
      rw [hu] at hf
      walk_at "rd"
      exact k _ _ s1 hf
end
end JF

/-! ### the grove's methods: kept, cell, knit -/
namespace JF
open PySem PySem.Spec PyProof.Rows L2
/-- the class stands at -/
abbrev CG (K : PySem.W.Frag) : Addr := He.ga K "Grove"
theorem nd_of {a : GA} {rows : List (Int × Addr)} (h : (a.g :: a.muts rows).Nodup) :
    (a.g ≠ a.dn ∧ a.g ≠ a.dm ∧ a.g ≠ a.dl ∧ a.g ≠ a.dv ∧ a.g ≠ a.ds ∧ a.g ≠ a.dp) ∧ (a.dn ≠ a.dm ∧ a.dn ≠ a.dl ∧ a.dn ≠ a.dv ∧ a.dn ≠ a.ds ∧ a.dn ≠ a.dp) ∧ (a.dm ≠ a.dl ∧ a.dm ≠ a.dv ∧ a.dm ≠ a.ds ∧ a.dm ≠ a.dp) ∧ (a.dl ≠ a.dv ∧ a.dl ≠ a.ds ∧ a.dl ≠ a.dp) ∧ (a.dv ≠ a.ds ∧ a.dv ≠ a.dp) ∧ a.ds ≠ a.dp ∧
      ∀ s b, (s, b) ∈ rows → b ≠ a.g ∧ b ≠ a.dn ∧ b ≠ a.dm ∧ b ≠ a.dl ∧ b ≠ a.dv ∧ b ≠ a.ds ∧ b ≠ a.dp := by
  simp only [GA.muts, GA.m5, List.cons_append, List.nil_append, List.nodup_cons, List.mem_cons, not_or] at h
  obtain ⟨⟨g1, g2, g3, g4, g5, g6, g7⟩, ⟨n1, n2, n3, n4, n5, n6⟩, ⟨m1, m2, m3, m4, m5⟩, ⟨l1, l2, l3, l4⟩, ⟨v1, v2, v3⟩, ⟨s1, s2⟩, p1, _⟩ := h
  refine ⟨⟨g1, g2, g3, g4, g5, g6⟩, ⟨n1, n2, n3, n4, n5⟩, ⟨m1, m2, m3, m4⟩, ⟨l1, l2, l3⟩, ⟨v1, v2⟩, s1, fun s b hb => ?_⟩
  have hm : b ∈ rows.map (·.2) := List.mem_map_of_mem (f := fun sa : Int × Addr => sa.2) hb
  exact ⟨fun z => g7 (z ▸ hm), fun z => n6 (z ▸ hm), fun z => m5 (z ▸ hm), fun z => l4 (z ▸ hm), fun z => v3 (z ▸ hm), fun z => s2 (z ▸ hm), fun z => p1 (z ▸ hm)⟩
theorem inl_kV (m : List Int) : (m.map (Sum.inl : Int → Key)).map kV = m.map V.int := by
  rw [List.map_map]; rfl
theorem snoc_get {α β : Type} {l : List α} {x : α} {l' : List β} {y : β} (hl : l.length = l'.length) {i : Nat} {u : α} {v : β} (h1 : (l ++ [x])[i]? = some u) (h2 : (l' ++ [y])[i]? = some v) : (l[i]? = some u ∧ l'[i]? = some v) ∨ (i = l.length ∧ u = x ∧ v = y) := by
  by_cases h : i < l.length
  · rw [List.getElem?_append_left h] at h1
    rw [List.getElem?_append_left (by omega)] at h2
    exact .inl ⟨h1, h2⟩
  · have hi : i < (l ++ [x]).length := (List.getElem?_eq_some_iff.mp h1).1
    have e : i = l.length := by simp at hi; omega
    subst e
    simp at h1
    rw [hl] at h2
    simp at h2
    exact .inr ⟨rfl, h1.symm, h2.symm⟩
/-- a square that is there stands in the dict by its own number; one that is not there does not -/
theorem look_of {q : List Sq} {mk : List (List Int)} (qn : q.Nodup) (lm : mk.length = q.length) (md : ∀ (i : Nat) m S, mk[i]? = some m → q[i]? = some S → Made q S m) {S : Sq} {m : List Int} (hm : Made q S m) :
    (∀ n, lookI mk m 0 = some n → q[n]? = some S) ∧ (lookI mk m 0 = none → S ∉ q) := by
  constructor
  · intro n h
    obtain ⟨_, h2⟩ := lookI_some h
    simp only [Nat.sub_zero] at h2
    have hn : n < q.length := by rw [← lm]; exact (List.getElem?_eq_some_iff.mp h2).1
    have e : q[n]? = some q[n] := by simp [hn]
    rw [e]
    exact congrArg some (made_same (md n m _ h2 e) hm)
  · intro h hS
    obtain ⟨n, hn, e⟩ := List.mem_iff_getElem.mp hS
    have hn' : n < mk.length := by omega
    have e1 : mk[n]? = some mk[n] := by simp [hn']
    have e2 : q[n]? = some S := by simp [hn, e]
    refine lookI_none h ?_
    rw [made_inj qn hm (md n _ S e1 e2)]
    exact List.getElem_mem hn'
theorem noats {K : PySem.W.Frag} {mg : Str → Option Value} (T : Env fa fn K mg) : NoAttr K (CG K) "numbers" ∧ NoAttr K (CG K) "made" ∧ NoAttr K (CG K) "levels" ∧ NoAttr K (CG K) "lives" ∧ NoAttr K (CG K) "spans" ∧ NoAttr K (CG K) "plain" :=
  ⟨T.noat 104, T.noat 103, T.noat 101, T.noat 102, T.noat 106, T.noat 105⟩
/-- the heap behind kept -/
theorem gat_kept {C : Addr} {H H' : Hp} {a : GA} {rows : List (Int × Addr)} {q : List Sq} {tups : List Addr} {mk : List (List Int)} {spt : List V} {S : Sq} {t : Addr} {m : List Int} {v : V} (G : GAt C H a rows q) (D : GData H a q tups mk spt)
    (ht : H t = some (.tup (m.map V.int))) (hm : Made q S m) (hw : S.wf) (hS : S ∉ q) (hv : SpanV H v S.span)
    (h1 : H' a.dn = some (.dT (kvsOf (mk ++ [m]) 0))) (h2 : H' a.dm = some (.lst ((tups ++ [t]).map V.ref))) (h3 : H' a.dl = some (.lst ((q ++ [S]).map fun S => V.int (S.level : Int)))) (h4 : H' a.dv = some (.lst ((q ++ [S]).map fun S => V.int S.lives))) (h5 : H' a.ds = some (.lst (spt ++ [v])))
    (fr : Fr a.m5 H H') : GAt C H' a rows (q ++ [S]) := by
  obtain ⟨⟨g1, g2, g3, g4, g5, g6⟩, ⟨n1, n2, n3, n4, n5⟩, ⟨m1, m2, m3, m4⟩, ⟨l1, l2, l3⟩, ⟨v1, v2⟩, s1, hr⟩ := nd_of G.nd
  have out : ∀ b xs, H b = some (.tup xs) → H' b = some (.tup xs) := fun b xs e => fr b _ e fun z => G.tup_out e (List.mem_append_left _ z)
  refine ⟨fr _ _ G.ob (by simp [GA.m5, g1, g2, g3, g4, g5]), ⟨tups ++ [t], mk ++ [m], spt ++ [v], h1, h2, h3, h4, h5, by simp [D.lt], by simp [D.lm], by simp [D.ls], fun i t' m' e1 e2 => ?_, fun i v' S' e1 e2 => ?_, fun i m' S' e1 e2 => ?_⟩, fun S' h => ?_, ?_, fr _ _ G.pl (by simp [GA.m5, Ne.symm n5, Ne.symm m4, Ne.symm l3, Ne.symm v2, Ne.symm s1]), G.nd, G.rn, G.rs, fun s b hb => ?_⟩
  · rcases snoc_get (by rw [D.lt, D.lm]) e1 e2 with ⟨e1, e2⟩ | ⟨_, rfl, rfl⟩
    · exact out _ _ (D.tu i t' m' e1 e2)
    · exact out _ _ ht
  · rcases snoc_get D.ls e1 e2 with ⟨e1, e2⟩ | ⟨_, rfl, rfl⟩
    · exact (D.sp i v' S' e1 e2).keep out
    · exact hv.keep out
  · rcases snoc_get D.lm e1 e2 with ⟨e1, e2⟩ | ⟨_, rfl, rfl⟩
    · exact (D.md i m' S' e1 e2).app _
    · exact hm.app _
  · rcases List.mem_append.mp h with h | h
    · exact G.wf S' h
    · simp only [List.mem_singleton] at h; subst h; exact hw
  · rw [List.nodup_append]
    refine ⟨G.qn, by simp, fun x hx y hy e => ?_⟩
    simp only [List.mem_singleton] at hy
    subst hy
    exact hS (e ▸ hx)
  · obtain ⟨ns, e, k⟩ := G.ro s b hb
    obtain ⟨_, b1, b2, b3, b4, b5, _⟩ := hr s b hb
    refine ⟨ns, fr _ _ e (by simp [GA.m5, b1, b2, b3, b4, b5]), fun i n hn => getElem?_app (k i n hn) _⟩
section
variable {P : Program} {w : World} {K : PySem.W.Frag} {mg : Str → Option Value} {base : Heap}
def sp_kept (C : Addr) : Sp := fun vs H Q _ => ∃ (a : GA) (rows : List (Int × Addr)) (q : List Sq) (S : Sq) (t : Addr) (m : List Int) (v : V), vs = [.ref a.g, .ref t, .int (S.level : Int), .int S.lives, v] ∧ GAt C H a rows q ∧ H t = some (.tup (m.map V.int)) ∧ Made q S m ∧ S.wf ∧ S ∉ q ∧ SpanV H v S.span ∧ q.length < 16000000 ∧
  ∀ H', GAt C H' a rows (q ++ [S]) → Fr a.m5 H H' → Q (.int (q.length : Int)) H'
theorem sizeBig : 16000000 < sizeLine := by decide
theorem ok_kept (T : Env fa fn K mg) : Good P w K mg base CX0 1 ("Grove", some "kept") ["self", "made", "level", "lives", "span"] (sp_kept (CG K)) := by
  refine good_mk T 6 (d := d_Grove_kept) (N := ["self", "made", "level", "lives", "span", "number"]) (ps := ["self", "made", "level", "lives", "span"]) rfl rfl sc_Grove_kept (fun _ _ _ _ _ _ us hl => match us, hl with | [_, _, _, _, _], _ => rfl) (fun vs H Q E h => ?_) (fun f cdv A outer s H vs Q E hr h => ?_)
  · obtain ⟨a, rows, q, S, t, m, v, rfl, _⟩ := h; rfl
  · obtain ⟨a, rows, q, S, t, m, v, rfl, G, ht, hm, hw, hS, hv, hlen, k⟩ := h
    have hu := hu_of hr
    have cl : Cls K (CG K) := T.cls 13
    have hsz := sizeBig
    obtain ⟨tups, mk, spt, D⟩ := id G.da
    obtain ⟨⟨g1, g2, g3, g4, g5, g6⟩, ⟨n1, n2, n3, n4, n5⟩, ⟨m1, m2, m3, m4⟩, ⟨l1, l2, l3⟩, ⟨v1, v2⟩, s1, _⟩ := nd_of G.nd
    have hob := G.ob
    have hn := D.hn
    have hm' := D.hm
    have hl := D.hl
    have hv' := D.hv
    have hs := D.hs
    have ne : ∀ b o, H b = some o → (∀ xs, o ≠ .tup xs) → b ≠ t := fun b o e h => ne_of e ht (h _)
    refine ⟨_, (pss_cons (ps_set (i := 5) sc_Grove_kept.nd rfl (Or.inl rfl) (pe_callB (call_lenK K rfl) (by rfl) (T.free 4) (by decide +kernel) (pa_cons (pe_fldK K rfl (pv 0) rfl) pa_nil)))
      (pss_cons (ps_dput hu (pe_fldK K rfl (pv 0) rfl) (pv 1) (pv 5) rfl)
      (pss_cons (ps_expr (pe_bm PySem.F.plainAttrs_list PySem.F.slot_list_append PySem.F.type_list_append mt_append (pe_fldK K rfl (pv 0) rfl) (pa_cons (pv 1) pa_nil)))
      (pss_cons (ps_expr (pe_bm PySem.F.plainAttrs_list PySem.F.slot_list_append PySem.F.type_list_append mt_append (pe_fldK K rfl (pv 0) rfl) (pa_cons (pv 2) pa_nil)))
      (pss_cons (ps_expr (pe_bm PySem.F.plainAttrs_list PySem.F.slot_list_append PySem.F.type_list_append mt_append (pe_fldK K rfl (pv 0) rfl) (pa_cons (pv 3) pa_nil)))
      (pss_cons (ps_expr (pe_bm PySem.F.plainAttrs_list PySem.F.slot_list_append PySem.F.type_list_append mt_append (pe_fldK K rfl (pv 0) rfl) (pa_cons (pv 4) pa_nil)))
      (pss_one (ps_ret (pv 5))))))))), ?_⟩
    walk_at "rd"
    refine rd_fldR hob cl (T.noat 103) (by rfl) ?_
    walk_at "rd"
    refine rd_len (SqL.of hm') ?_
    walk_at "rd"
    refine rd_fldR hob cl (T.noat 104) (by rfl) ?_
    walk_at "rd"
    refine ⟨a.dn, _, rfl, DPut.t (k := m.map Sum.inl) hn (by rw [inl_kV]; exact ht) (by rw [kvsOf_len, D.lm]; omega), ?_⟩
    have hnone : valV (kvsOf mk 0) (m.map Sum.inl) = none := by
      rw [valV_kvsOf]
      cases e : lookI mk m 0 with
      | none => rfl
      | some n => exact (hS (List.mem_of_getElem? ((look_of G.qn D.lm D.md hm).1 n e))).elim
    rw [putK_new _ hnone]
    have e1 : kvsOf mk 0 ++ [(m.map Sum.inl, V.int (((tups.map V.ref).length : Nat) : Int))] = kvsOf (mk ++ [m]) 0 := by
      rw [kvsOf_app, Nat.zero_add, D.lm, List.length_map, D.lt]
    rw [e1]
    walk_at "rd"
    refine rd_fldR (by walk_at "hp") cl (T.noat 103) (by rfl) ?_
    refine rd_tyL (by walk_at "hp") ?_
    walk_at "rd"
    refine rd_append (xs := tups.map V.ref) (by walk_at "hp") (by rw [List.length_map, D.lt]; omega) ?_
    walk_at "rd"
    refine rd_fldR (by walk_at "hp") cl (T.noat 101) (by rfl) ?_
    refine rd_tyL (xs := q.map fun S => V.int (S.level : Int)) (by walk_at "hp") ?_
    walk_at "rd"
    refine rd_append (xs := q.map fun S => V.int (S.level : Int)) (by walk_at "hp") (by rw [List.length_map]; omega) ?_
    walk_at "rd"
    refine rd_fldR (by walk_at "hp") cl (T.noat 102) (by rfl) ?_
    refine rd_tyL (xs := q.map fun S => V.int S.lives) (by walk_at "hp") ?_
    walk_at "rd"
    refine rd_append (xs := q.map fun S => V.int S.lives) (by walk_at "hp") (by rw [List.length_map]; omega) ?_
    walk_at "rd"
    refine rd_fldR (by walk_at "hp") cl (T.noat 106) (by rfl) ?_
    refine rd_tyL (xs := spt) (by walk_at "hp") ?_
    walk_at "rd"
    refine rd_append (xs := spt) (by walk_at "hp") (by rw [D.ls]; omega) ?_
    walk_at "rd"
    rw [List.length_map, D.lt]
    refine k _ (gat_kept G D ht hm hw hS hv (by walk_at "hp") ((by walk_at "hp" : _ = some (HO.lst (tups.map V.ref ++ [V.ref t]))).trans (by simp)) ((by walk_at "hp" : _ = some (HO.lst ((q.map fun S => V.int (S.level : Int)) ++ [V.int (S.level : Int)]))).trans (by simp)) ((by walk_at "hp" : _ = some (HO.lst ((q.map fun S => V.int S.lives) ++ [V.int S.lives]))).trans (by simp)) (by walk_at "hp") ?fr) ?fr
    case fr =>
      intro b o e hb
      simp only [GA.m5, List.mem_cons, List.not_mem_nil, or_false, not_or] at hb
      obtain ⟨b1, b2, b3, b4, b5⟩ := hb
      walk_at "hp"
/-! ### cell and knit -/
theorem take_snoc {α : Type} {l : List α} {i : Nat} {v : α} (h : l[i]? = some v) : l.take (i + 1) = l.take i ++ [v] := by
  rw [List.take_add_one, h]; rfl
def sp_cell (C : Addr) : Sp := fun vs H Q _ => ∃ (a : GA) (rows : List (Int × Addr)) (q : List Sq) (s : Int), vs = [.ref a.g, .int s] ∧ GAt C H a rows q ∧ 0 ≤ s ∧ s ≤ 7 ∧ q.length < 16000000 ∧
  ∀ H' q' (n : Nat), GAt C H' a rows q' → q <+: q' → q'.length ≤ q.length + 1 → q'[n]? = some (.leaf s) → Fr a.m5 H H' → Q (.int (n : Int)) H'
theorem ok_cell (T : Env fa fn K mg) : Good P w K mg base CX0 2 ("Grove", some "cell") ["self", "state"] (sp_cell (CG K)) := by
  have G_Grove_kept := ok_kept (P := P) (w := w) (base := base) T
  refine good_mk T 7 (d := d_Grove_cell) (N := ["self", "state", "made"]) (ps := ["self", "state"]) rfl rfl sc_Grove_cell (fun _ _ _ _ _ _ us hl => match us, hl with | [_, _], _ => rfl) (fun vs H Q E h => ?_) (fun f cdv A outer s H vs Q E hr h => ?_)
  · obtain ⟨a, rows, q, s, rfl, _⟩ := h; rfl
  · obtain ⟨a, rows, q, s, rfl, G, h0, h7, hlen, k⟩ := h
    have hu := hu_of hr
    have cl : Cls K (CG K) := T.cls 13
    obtain ⟨na1, na2, na3, na4, na5, na6⟩ := noats T
    refine ⟨_, (pss_cons (ps_set (i := 2) sc_Grove_cell.nd rfl (Or.inl rfl) (pe_tup (pa_cons (pv 1) pa_nil)))
      (pss_cons (ps_if (pt_cmp (pc_din hu (pv 2) (pe_fldK K rfl (pv 0) rfl))) (pss_one (ps_ret (pe_dget hu (pe_fldK K rfl (pv 0) rfl) (pv 2) (fun _ _ => rfl)))) pss_nil)
      (pss_cons (ps_if (pt_cmpR op_eq (pv 1) pe_int (nomark _)) (pss_one (ps_ret (pe_mgK K rfl (pv 0) (T.cls 13) (T.meth 14) G_Grove_kept (hr.mono (by decide)) (pa_cons (pv 2) (pa_cons pe_int (pa_cons pe_int (pa_cons pe_non pa_nil))))))) pss_nil)
      (pss_one (ps_ret (pe_mgK K rfl (pv 0) (T.cls 13) (T.meth 14) G_Grove_kept (hr.mono (by decide)) (pa_cons (pv 2) (pa_cons pe_int (pa_cons pe_int (pa_cons (pe_tup (pa_cons pe_int (pa_cons pe_int (pa_cons pe_int (pa_cons pe_int pa_nil))))) pa_nil)))))))))), ?_⟩
    walk_at "rd"
    refine rd_new (hn := by show 1 ≤ sizeLine; decide) fun t ht => ?_
    walk_at "rd"
    have sm := same_upd (o := HO.tup [V.int s]) ht
    have G1 := G.same sm
    have ob1 := G1.ob
    obtain ⟨tups, mk, spt, D⟩ := G1.da
    have hT : (upd H t (HO.tup [V.int s])) t = some (.tup ([s].map V.int)) := upd_same
    have hT' : (upd H t (HO.tup [V.int s])) t = some (.tup (([s].map (Sum.inl : Int → Key)).map kV)) := upd_same
    walk_at "rd"
    refine ⟨a.dn, _, rfl, DGet.t (k := [s].map Sum.inl) D.hn hT', ?_⟩
    rw [valV_kvsOf]
    obtain ⟨L1, L2⟩ := look_of G.qn D.lm D.md (S := .leaf s) (m := [s]) rfl
    cases e : lookI mk [s] 0 with
    | some n =>
      walk_at "rd"
      refine iteT ?_
      walk_at "rd"
      refine ⟨a.dn, .int (n : Int), rfl, ?_, ?_⟩
      · have z := DGet.t (k := [s].map Sum.inl) D.hn hT'
        rw [valV_kvsOf, e] at z
        exact z
      · exact k _ q n G1 (List.prefix_refl _) (by omega) (L1 n e) (fr_of sm)
    | none =>
      walk_at "rd"
      refine iteF ?_
      walk_at "rd"
      have hS := L2 e
      have fin : ∀ H', GAt (CG K) H' a rows (q ++ [Sq.leaf s]) → Fr a.m5 (upd H t (HO.tup [V.int s])) H' → Q (.int (q.length : Int)) H' := fun H' g fr =>
        k H' _ q.length g (List.prefix_append _ _) (by simp) (by simp) ((fr_of sm).trans fr)
      refine ite_d (fun hs => ?_) (fun hs => ?_)
      · walk_at "rd"
        refine rd_methR G1.ob (by rfl) ?_
        walk_at "rd"
        exact ⟨a, rows, q, .leaf s, t, [s], .non, by simp [Sq.level, Sq.lives, hs], G1, hT, rfl, ⟨h0, h7⟩, hS, by simp [Sq.span, hs, SpanV], hlen, fin⟩
      · walk_at "rd"
        refine rd_methR G1.ob (by rfl) ?_
        walk_at "rd"
        refine rd_new (hn := by show 4 ≤ sizeLine; decide) fun t2 ht2 => ?_
        walk_at "rd"
        have sm2 := same_upd (o := HO.tup [V.int 0, V.int 0, V.int 1, V.int 1]) ht2
        exact ⟨a, rows, q, .leaf s, t, [s], .ref t2, by simp [Sq.level, Sq.lives, hs], G1.same sm2, sm2 _ _ hT, rfl, ⟨h0, h7⟩, hS, by simp only [Sq.span, hs, if_false]; exact ⟨t2, rfl, upd_same⟩, hlen, fun H' g fr => fin H' g ((fr_of sm2).trans fr)⟩
def sp_knit (C : Addr) : Sp := fun vs H Q _ => ∃ (a : GA) (rows : List (Int × Addr)) (q : List Sq) (A B C' D : Sq) (na nb nc nd : Nat), vs = [.ref a.g, .int (na : Int), .int (nb : Int), .int (nc : Int), .int (nd : Int)] ∧ GAt C H a rows q ∧
  q[na]? = some A ∧ q[nb]? = some B ∧ q[nc]? = some C' ∧ q[nd]? = some D ∧ (Sq.node A B C' D).wf ∧ A.level ≤ 60 ∧ q.length < 16000000 ∧
  ∀ H' q' (n : Nat), GAt C H' a rows q' → q <+: q' → q'.length ≤ q.length + 1 → q'[n]? = some (.node A B C' D) → Fr a.m5 H H' → Q (.int (n : Int)) H'
theorem map_get {α β : Type} {l : List α} {n : Nat} {x : α} (f : α → β) (h : l[n]? = some x) : (l.map f)[n]? = some (f x) := by
  rw [List.getElem?_map, h]; rfl
theorem acc4_r4 (half : Int) (a b c d : Option Box) : acc4 half [a, b, c, d] 4 = r4 half a b c d := rfl
theorem ok_knit (T : Env fa fn K mg) : Good P w K mg base CX0 3 ("Grove", some "knit") ["self", "a", "b", "c", "d"] (sp_knit (CG K)) := by
  have G_Grove_kept := ok_kept (P := P) (w := w) (base := base) T
  have G_round_four := ok_round_four (P := P) (w := w) (base := base) T
  refine good_mk T 8 (d := d_Grove_knit) (N := ["self", "a", "b", "c", "d", "made", "level", "lives", "span", "one"]) (ps := ["self", "a", "b", "c", "d"]) rfl rfl sc_Grove_knit (fun _ _ _ _ _ _ us hl => match us, hl with | [_, _, _, _, _], _ => rfl) (fun vs H Q E h => ?_) (fun f cdv A outer s H vs Q E hr h => ?_)
  · obtain ⟨a, rows, q, A, B, C', D, na, nb, nc, nd, rfl, _⟩ := h; rfl
  · obtain ⟨a, rows, q, A, B, C', D, na, nb, nc, nd, rfl, G, ha, hb, hc, hd, hwf, hlv, hlen, k⟩ := h
    have hu := hu_of hr
    have cl : Cls K (CG K) := T.cls 13
    obtain ⟨na1, na2, na3, na4, na5, na6⟩ := noats T
    refine ⟨_, (pss_cons (ps_set (i := 5) sc_Grove_knit.nd rfl (Or.inl rfl) (pe_tup (pa_cons (pv 1) (pa_cons (pv 2) (pa_cons (pv 3) (pa_cons (pv 4) pa_nil))))))
      (pss_cons (ps_if (pt_cmp (pc_din hu (pv 5) (pe_fldK K rfl (pv 0) rfl))) (pss_one (ps_ret (pe_dget hu (pe_fldK K rfl (pv 0) rfl) (pv 5) (fun _ _ => rfl)))) pss_nil)
      (pss_cons (ps_set (i := 6) sc_Grove_knit.nd rfl (Or.inl rfl) (pe_ix (ix_listK K rfl) (pe_fldK K rfl (pv 0) rfl) (pv 1) (fun _ _ => rfl)))
      (pss_cons (ps_set (i := 7) sc_Grove_knit.nd rfl (Or.inl rfl) (pe_op op_add (pe_op op_add (pe_op op_add (pe_ix (ix_listK K rfl) (pe_fldK K rfl (pv 0) rfl) (pv 1) (fun _ _ => rfl)) (pe_ix (ix_listK K rfl) (pe_fldK K rfl (pv 0) rfl) (pv 2) (fun _ _ => rfl))) (pe_ix (ix_listK K rfl) (pe_fldK K rfl (pv 0) rfl) (pv 3) (fun _ _ => rfl))) (pe_ix (ix_listK K rfl) (pe_fldK K rfl (pv 0) rfl) (pv 4) (fun _ _ => rfl))))
      (pss_cons (ps_set (i := 8) sc_Grove_knit.nd rfl (Or.inl rfl) (pe_cgK K rfl G_round_four (hr.mono (by decide)) (T.glo 15) (pa_cons (pe_lc (own := [("one", 9)]) (tt := tYes) rfl sc_Grove_knit.nd (pi_tupK K rfl (pv 5)) (blkOk_by (own := [("one", 9)]) (N := ["self", "a", "b", "c", "d", "made", "level", "lives", "span", "one"]) (sc := defScope st_Grove_knit) (by decide +kernel)) (fun _ _ _ _ _ => by exact (pg_name (i := 9) sc_Grove_knit.nd rfl (Or.inl rfl))) (fun _ _ _ _ _ => by exact pts_nil) (fun _ _ _ _ _ => by exact (pe_ix (ix_listK K rfl) (pe_fldK K rfl (pv 0) rfl) (pv 9) (fun _ _ => rfl)))) (pa_cons (pe_op op_shl pe_int (pv 6)) pa_nil))))
      (pss_one (ps_ret (pe_mgK K rfl (pv 0) (T.cls 13) (T.meth 14) G_Grove_kept (hr.mono (by decide)) (pa_cons (pv 5) (pa_cons (pe_op op_add (pv 6) pe_int) (pa_cons (pv 7) (pa_cons (pv 8) pa_nil)))))))))))), ?_⟩
    walk_at "rd"
    refine rd_new (hn := by show 4 ≤ sizeLine; decide) fun t ht => ?_
    walk_at "rd"
    have sm := same_upd (o := HO.tup [V.int (na : Int), V.int (nb : Int), V.int (nc : Int), V.int (nd : Int)]) ht
    have G1 := G.same sm
    have ob1 := G1.ob
    have hT : (upd H t (HO.tup [V.int (na : Int), V.int (nb : Int), V.int (nc : Int), V.int (nd : Int)])) t = some (.tup [V.int (na : Int), V.int (nb : Int), V.int (nc : Int), V.int (nd : Int)]) := upd_same
    generalize hH1 : upd H t (HO.tup [V.int (na : Int), V.int (nb : Int), V.int (nc : Int), V.int (nd : Int)]) = H1 at sm G1 ob1 hT ⊢
    obtain ⟨tups, mk, spt, Dt⟩ := G1.da
    have hT' : H1 t = some (.tup (([(na : Int), (nb : Int), (nc : Int), (nd : Int)].map (Sum.inl : Int → Key)).map kV)) := hT
    walk_at "rd"
    refine ⟨a.dn, _, rfl, DGet.t (k := [(na : Int), (nb : Int), (nc : Int), (nd : Int)].map Sum.inl) Dt.hn hT', ?_⟩
    rw [valV_kvsOf]
    have hM : Made q (.node A B C' D) [(na : Int), (nb : Int), (nc : Int), (nd : Int)] := ⟨na, nb, nc, nd, rfl, ha, hb, hc, hd⟩
    obtain ⟨L1, L2⟩ := look_of G.qn Dt.lm Dt.md hM
    cases e : lookI mk [(na : Int), (nb : Int), (nc : Int), (nd : Int)] 0 with
    | some n =>
      walk_at "rd"
      refine iteT ?_
      walk_at "rd"
      refine ⟨a.dn, .int (n : Int), rfl, ?_, ?_⟩
      · have z := DGet.t (k := [(na : Int), (nb : Int), (nc : Int), (nd : Int)].map Sum.inl) Dt.hn hT'
        rw [valV_kvsOf, e] at z
        exact z
      · exact k _ q n G1 (List.prefix_refl _) (by omega) (L1 n e) (fr_of sm)
    | none =>
      walk_at "rd"
      refine iteF ?_
      walk_at "rd"
      have hS := L2 e
      obtain ⟨wa, wb, wc, wd, l1, l2, l3⟩ := id hwf
      walk_at "rd"
      refine rd_ixL (SqL.of Dt.hl) (atI_nat (map_get (fun S : Sq => V.int (S.level : Int)) ha)) ?_
      walk_at "rd"
      refine rd_ixL (SqL.of Dt.hv) (atI_nat (map_get (fun S : Sq => V.int S.lives) ha)) ?_
      walk_at "rd"
      refine rd_ixL (SqL.of Dt.hv) (atI_nat (map_get (fun S : Sq => V.int S.lives) hb)) ?_
      walk_at "rd"
      refine rd_ixL (SqL.of Dt.hv) (atI_nat (map_get (fun S : Sq => V.int S.lives) hc)) ?_
      walk_at "rd"
      refine rd_ixL (SqL.of Dt.hv) (atI_nat (map_get (fun S : Sq => V.int S.lives) hd)) ?_
      walk_at "rd"
      have sv : ∀ (n : Nat) S, q[n]? = some S → ∃ v, spt[n]? = some v ∧ SpanV H1 v S.span := fun n S h => by
        have hn : n < spt.length := by rw [Dt.ls]; exact (List.getElem?_eq_some_iff.mp h).1
        exact ⟨spt[n], by simp [hn], Dt.sp n _ S (by simp [hn]) h⟩
      obtain ⟨va, ea, pa⟩ := sv _ _ ha
      obtain ⟨vb, eb, pb⟩ := sv _ _ hb
      obtain ⟨vc, ec, pc⟩ := sv _ _ hc
      obtain ⟨vd, ed, pd⟩ := sv _ _ hd
      refine ⟨t, rfl, ⟨_, SqT.of hT⟩, fun dl hdl => ?_⟩
      have ndl : ∀ b o, H1 b = some o → b ≠ dl := fun b o e => ne_of_none e hdl
      refine lc_tup (K := K) (xs := [V.int (na : Int), V.int (nb : Int), V.int (nc : Int), V.int (nd : Int)]) (fun i H' => H' = upd H1 dl (.lst ([va, vb, vc, vd].take i))) rfl (fun i H' _ e => SqT.of (by rw [e, upd_ne (ndl _ _ hT)]; exact hT)) ?_ ?_
      · rintro i x H' hx rfl
        obtain ⟨n, v, rfl, e1, e2⟩ : ∃ (n : Nat) (v : V), x = .int (n : Int) ∧ spt[n]? = some v ∧ [va, vb, vc, vd][i]? = some v := by
          match i, hx with
          | 0, hx => exact ⟨na, va, (Option.some.inj hx).symm, ea, rfl⟩
          | 1, hx => exact ⟨nb, vb, (Option.some.inj hx).symm, eb, rfl⟩
          | 2, hx => exact ⟨nc, vc, (Option.some.inj hx).symm, ec, rfl⟩
          | 3, hx => exact ⟨nd, vd, (Option.some.inj hx).symm, ed, rfl⟩
        walk_at "rd"
        refine ⟨rfl, ?_⟩
        walk_at "rd"
        refine rd_fldR (by rw [upd_ne (ndl _ _ G1.ob)]; exact G1.ob) cl na5 (by rfl) ?_
        walk_at "rd"
        refine rd_ixL (SqL.of (by rw [upd_ne (ndl _ _ Dt.hs)]; exact Dt.hs)) (atI_nat e1) ?_
        refine ⟨_, upd_same, ?_, ?_⟩
        · have : (([va, vb, vc, vd] : List V).take i).length ≤ 4 := by rw [List.length_take]; exact Nat.min_le_right _ _
          exact small1000 (by omega)
        · rw [upd_upd, take_snoc e2]
      · rintro H' rfl
        have s2 := same_upd (o := HO.lst [va, vb, vc, vd]) hdl
        walk_at "rd"
        refine rd_I (by refine ⟨by omega, by omega, by decide⟩) ?_
        walk_at "rd"
        have eh : (1 : Int) * 2 ^ ((A.level : Int)).toNat = 2 ^ A.level := by rw [Int.one_mul, Int.toNat_natCast]
        refine ⟨dl, [va, vb, vc, vd], [A.span, B.span, C'.span, D.span], _, rfl, upd_same, rfl, rfl, ?_, ?_, ?_, fun H2 u s3 hu2 => ?_⟩
        · intro i v o h1 h2
          match i, h1, h2 with
          | 0, h1, h2 => cases h1; cases h2; exact pa.keep fun b xs e => s2 _ _ e
          | 1, h1, h2 => cases h1; cases h2; exact pb.keep fun b xs e => s2 _ _ e
          | 2, h1, h2 => cases h1; cases h2; exact pc.keep fun b xs e => s2 _ _ e
          | 3, h1, h2 => cases h1; cases h2; exact pd.keep fun b xs e => s2 _ _ e
        · have e2 : (0 : Int) < 2 ^ A.level := Int.pow_pos (by decide)
          rw [eh]; omega
        · have e2 : 2 ^ A.level < 2 ^ 64 := Nat.pow_lt_pow_right (by decide) (by omega)
          rw [eh]
          exact_mod_cast e2
        · rw [eh, acc4_r4] at hu2
          have s13 : Same H1 H2 := fun b o e => s3 b o (by rw [upd_ne (ndl _ _ e)]; exact e)
          walk_at "rd"
          refine rd_methR (s13 _ _ G1.ob) (by rfl) ?_
          walk_at "rd"
          refine ⟨a, rows, q, .node A B C' D, t, [(na : Int), (nb : Int), (nc : Int), (nd : Int)], u, ?_, G1.same s13, s13 _ _ hT, hM, hwf, hS, ?_, hlen, fun H' g fr => k H' _ q.length g (List.prefix_append _ _) (by simp) (by simp) (((fr_of sm).trans (fr_of s13)).trans fr)⟩
          · have e1 : (V.int ((A.level : Int) + 1)) = V.int (((Sq.node A B C' D).level : Nat) : Int) := rfl
            rw [← e1]; rfl
          · exact hu2
theorem mp_kept {C : Addr} : MonP (sp_kept C) := fun vs H Q Q' E h ⟨a, rows, q, S, t, m, v, x1, x2, x3, x4, x5, x6, x7, x8, k⟩ => ⟨a, rows, q, S, t, m, v, x1, x2, x3, x4, x5, x6, x7, x8, fun H' g f => h _ _ (k H' g f)⟩
theorem mp_cell {C : Addr} : MonP (sp_cell C) := fun vs H Q Q' E h ⟨a, rows, q, s, x1, x2, x3, x4, x5, k⟩ => ⟨a, rows, q, s, x1, x2, x3, x4, x5, fun H' q' n g p l e f => h _ _ (k H' q' n g p l e f)⟩
theorem mp_knit {C : Addr} : MonP (sp_knit C) := fun vs H Q Q' E h ⟨a, rows, q, A, B, C', D, na, nb, nc, nd, x1, x2, x3, x4, x5, x6, x7, x8, x9, k⟩ => ⟨a, rows, q, A, B, C', D, na, nb, nc, nd, x1, x2, x3, x4, x5, x6, x7, x8, x9, fun H' q' n g p l e f => h _ _ (k H' q' n g p l e f)⟩
end
end JF

/-! ### the grove's methods: __init__, even -/
namespace JF
open PySem PySem.Spec PyProof.Rows L2
section
variable {P : Program} {w : World} {K : PySem.W.Frag} {mg : Str → Option Value} {base : Heap}
def sp_ginit (C : Addr) : Sp := fun vs H Q _ => ∃ (p dx : Addr), vs = [.ref p] ∧ H p = some (.ins C dx []) ∧ ∀ (a : GA) (H' : Hp), a.g = p → GAt C H' a [] [] → (∀ b ∈ a.muts [], H b = none) → (∀ b o, H b = some o → b ≠ p → H' b = some o) → Q .non H'
theorem ok_ginit (T : Env fa fn K mg) : Good P w K mg base CX0 1 ("Grove", some "__init__") ["self"] (sp_ginit (CG K)) := by
  refine good_mk T 5 (d := d_Grove_init) (N := ["self"]) (ps := ["self"]) rfl rfl sc_Grove_init (fun _ _ _ _ _ _ us hl => match us, hl with | [_], _ => rfl) (fun vs H Q E h => ?_) (fun f cdv A outer s H vs Q E hr h => ?_)
  · obtain ⟨p, dx, rfl, _⟩ := h; rfl
  · obtain ⟨p, dx, rfl, hp, k⟩ := h
    have cl : Cls K (CG K) := T.cls 13
    obtain ⟨na1, na2, na3, na4, na5, na6⟩ := noats T
    refine ⟨_, (pss_cons (ps_fld (pv 0) pe_dnewT rfl)
      (pss_cons (ps_fld (pv 0) (pe_lst pa_nil) rfl)
      (pss_cons (ps_fld (pv 0) (pe_lst pa_nil) rfl)
      (pss_cons (ps_fld (pv 0) (pe_lst pa_nil) rfl)
      (pss_cons (ps_fld (pv 0) (pe_lst pa_nil) rfl)
      (pss_one (ps_fld (pv 0) pe_dnewK rfl))))))), ?_⟩
    walk_at "rd"
    intro dn hdn
    have p1 : p ≠ dn := ne_of_none hp hdn
    walk_at "rd"
    refine ⟨p, CG K, dx, [], rfl, by walk_at "hp", cl, na1, by decide, ?_⟩
    walk_at "rd"
    refine rd_new (hn := by show 0 ≤ sizeLine; decide) fun dm hdm => ?_
    have p2 : p ≠ dm := ne_of_none upd_same hdm
    have e1 : dn ≠ dm := ne_of_none (by rw [upd_ne p1.symm, upd_same]) hdm
    walk_at "rd"
    refine ⟨p, CG K, dx, _, rfl, by walk_at "hp", cl, na2, (by show 1 < 1000; decide), ?_⟩
    walk_at "rd"
    refine rd_new (hn := by show 0 ≤ sizeLine; decide) fun dl hdl => ?_
    have p3 : p ≠ dl := ne_of_none upd_same hdl
    have e2 : dn ≠ dl := ne_of_none (o := .dT []) (by walk_at "hp") hdl
    have e3 : dm ≠ dl := ne_of_none (o := .lst []) (by walk_at "hp") hdl
    walk_at "rd"
    refine ⟨p, CG K, dx, _, rfl, by walk_at "hp", cl, na3, (by show 2 < 1000; decide), ?_⟩
    walk_at "rd"
    refine rd_new (hn := by show 0 ≤ sizeLine; decide) fun dv hdv => ?_
    have p4 : p ≠ dv := ne_of_none upd_same hdv
    have f1 : dn ≠ dv := ne_of_none (o := .dT []) (by walk_at "hp") hdv
    have f2 : dm ≠ dv := ne_of_none (o := .lst []) (by walk_at "hp") hdv
    have f3 : dl ≠ dv := ne_of_none (o := .lst []) (by walk_at "hp") hdv
    walk_at "rd"
    refine ⟨p, CG K, dx, _, rfl, by walk_at "hp", cl, na4, (by show 3 < 1000; decide), ?_⟩
    walk_at "rd"
    refine rd_new (hn := by show 0 ≤ sizeLine; decide) fun ds hds => ?_
    have p5 : p ≠ ds := ne_of_none upd_same hds
    have g1 : dn ≠ ds := ne_of_none (o := .dT []) (by walk_at "hp") hds
    have g2 : dm ≠ ds := ne_of_none (o := .lst []) (by walk_at "hp") hds
    have g3 : dl ≠ ds := ne_of_none (o := .lst []) (by walk_at "hp") hds
    have g4 : dv ≠ ds := ne_of_none (o := .lst []) (by walk_at "hp") hds
    walk_at "rd"
    refine ⟨p, CG K, dx, _, rfl, by walk_at "hp", cl, na5, (by show 4 < 1000; decide), ?_⟩
    walk_at "rd"
    intro dp hdp
    have p6 : p ≠ dp := ne_of_none upd_same hdp
    have h1 : dn ≠ dp := ne_of_none (o := .dT []) (by walk_at "hp") hdp
    have h2 : dm ≠ dp := ne_of_none (o := .lst []) (by walk_at "hp") hdp
    have h3 : dl ≠ dp := ne_of_none (o := .lst []) (by walk_at "hp") hdp
    have h4 : dv ≠ dp := ne_of_none (o := .lst []) (by walk_at "hp") hdp
    have h5 : ds ≠ dp := ne_of_none (o := .lst []) (by walk_at "hp") hdp
    walk_at "rd"
    refine ⟨p, CG K, dx, _, rfl, by walk_at "hp", cl, na6, (by show 5 < 1000; decide), ?_⟩
    have emp : ∀ (i : Nat) {α : Type} (x : α), ([] : List α)[i]? = some x → False := fun i α x e => by simp at e
    have out : ∀ (b u : Addr) (Hx : Hp) (o : HO), upd Hx u o b = none → Hx b = none := fun b u Hx o e => by
      by_cases z : b = u
      · subst z; rw [upd_same] at e; cases e
      · rw [upd_ne z] at e; exact e
    refine k ⟨p, dx, dn, dm, dl, dv, ds, dp⟩ _ rfl ⟨upd_same, ⟨[], [], [], by walk_at "hp", by walk_at "hp", by walk_at "hp", by walk_at "hp", by walk_at "hp", rfl, rfl, rfl, fun i t m e => (emp i _ e).elim, fun i t m e => (emp i _ e).elim, fun i t m e => (emp i _ e).elim⟩, by simp, by simp, by walk_at "hp", by simp [GA.muts, GA.m5, *], by simp, by simp, by simp⟩ ?_ ?_
    · intro b hb
      simp only [GA.muts, GA.m5, List.cons_append, List.nil_append, List.mem_cons, List.map_nil, List.not_mem_nil, or_false] at hb
      rcases hb with rfl | rfl | rfl | rfl | rfl | rfl
      · exact hdn
      · exact out _ _ _ _ (out _ _ _ _ hdm)
      · exact out _ _ _ _ (out _ _ _ _ (out _ _ _ _ (out _ _ _ _ hdl)))
      · exact out _ _ _ _ (out _ _ _ _ (out _ _ _ _ (out _ _ _ _ (out _ _ _ _ (out _ _ _ _ hdv)))))
      · exact out _ _ _ _ (out _ _ _ _ (out _ _ _ _ (out _ _ _ _ (out _ _ _ _ (out _ _ _ _ (out _ _ _ _ (out _ _ _ _ hds)))))))
      · exact out _ _ _ _ (out _ _ _ _ (out _ _ _ _ (out _ _ _ _ (out _ _ _ _ (out _ _ _ _ (out _ _ _ _ (out _ _ _ _ (out _ _ _ _ (out _ _ _ _ hdp)))))))))
    · intro b o e hb
      have b1 : b ≠ dn := ne_of_none e hdn
      have b2 : b ≠ dm := ne_of_none e (out _ _ _ _ (out _ _ _ _ hdm))
      have b3 : b ≠ dl := ne_of_none e (out _ _ _ _ (out _ _ _ _ (out _ _ _ _ (out _ _ _ _ hdl))))
      have b4 : b ≠ dv := ne_of_none e (out _ _ _ _ (out _ _ _ _ (out _ _ _ _ (out _ _ _ _ (out _ _ _ _ (out _ _ _ _ hdv))))))
      have b5 : b ≠ ds := ne_of_none e (out _ _ _ _ (out _ _ _ _ (out _ _ _ _ (out _ _ _ _ (out _ _ _ _ (out _ _ _ _ (out _ _ _ _ (out _ _ _ _ hds))))))))
      have b6 : b ≠ dp := ne_of_none e (out _ _ _ _ (out _ _ _ _ (out _ _ _ _ (out _ _ _ _ (out _ _ _ _ (out _ _ _ _ (out _ _ _ _ (out _ _ _ _ (out _ _ _ _ (out _ _ _ _ hdp))))))))))
      walk_at "hp"
end
end JF

/-! ### even, and the asking methods -/
namespace JF
open PySem PySem.Spec PyProof.Rows L2
/-- a row of plain squares grows -/
theorem GAt.row {C : Addr} {H : Hp} {a : GA} {rows : List (Int × Addr)} {q : List Sq} {s : Int} {b : Addr} {ns : List Nat} (G : GAt C H a rows q) (h : (s, b) ∈ rows) (hv : ∀ (i : Nat) n, ns[i]? = some n → q[n]? = some (Sq.even i s)) :
    GAt C (L2.upd H b (.lst (ns.map fun (n : Nat) => V.int (n : Int)))) a rows q := by
  obtain ⟨tups, mk, spt, D⟩ := G.da
  obtain ⟨⟨g1, g2, g3, g4, g5, g6⟩, _, _, _, _, _, hr⟩ := nd_of G.nd
  obtain ⟨r1, r2, r3, r4', r5, r6, r7⟩ := hr s b h
  obtain ⟨ns0, hb0, _⟩ := G.ro s b h
  have out : ∀ c xs, H c = some (.tup xs) → L2.upd H b (.lst (ns.map fun (n : Nat) => V.int (n : Int))) c = some (.tup xs) := fun c xs e => by
    rw [upd_ne (by rintro rfl; rw [hb0] at e; cases e)]; exact e
  refine ⟨by rw [upd_ne r1.symm]; exact G.ob, ⟨tups, mk, spt, by rw [upd_ne r2.symm]; exact D.hn, by rw [upd_ne r3.symm]; exact D.hm, by rw [upd_ne r4'.symm]; exact D.hl, by rw [upd_ne r5.symm]; exact D.hv, by rw [upd_ne r6.symm]; exact D.hs, D.lt, D.lm, D.ls,
    fun i t m h1 h2 => out _ _ (D.tu i t m h1 h2), fun i v S h1 h2 => (D.sp i v S h1 h2).keep out, D.md⟩, G.wf, G.qn, by rw [upd_ne r7.symm]; exact G.pl, G.nd, G.rn, G.rs, fun s' b' h' => ?_⟩
  by_cases e : b' = b
  · subst e
    have hs : s' = s := by
      have nd2 : (rows.map (·.2)).Nodup := by
        have z := (List.nodup_cons.mp G.nd).2
        unfold GA.muts at z
        exact (List.nodup_cons.mp (List.nodup_append.mp z).2.1).2
      obtain ⟨i, hi, e1⟩ := List.mem_iff_getElem.mp h
      obtain ⟨j, hj, e2⟩ := List.mem_iff_getElem.mp h'
      have e3 : i = j := (List.getElem_inj (xs := rows.map (·.2)) (h₀ := by simpa using hi) (h₁ := by simpa using hj) nd2).mp (by simp [e1, e2])
      subst e3
      rw [e1] at e2
      exact (congrArg Prod.fst e2).symm
    subst hs
    exact ⟨ns, upd_same, hv⟩
  · obtain ⟨ns', e1, e2⟩ := G.ro s' b' h'
    exact ⟨ns', by rw [upd_ne e]; exact e1, e2⟩
theorem rows_look {rows : List (Int × Addr)} {s : Int} : (∀ v, valV (rows.map fun sa => ((Sum.inl sa.1 : Key), V.ref sa.2)) (Sum.inl s) = some v → ∃ b, (s, b) ∈ rows ∧ v = .ref b) ∧ (valV (rows.map fun sa => ((Sum.inl sa.1 : Key), V.ref sa.2)) (Sum.inl s) = none → s ∉ rows.map (·.1)) := by
  induction rows with
  | nil => exact ⟨fun v h => (by cases h), fun _ => by simp⟩
  | cons x r ih =>
    by_cases e : x.1 = s
    · constructor
      · intro v h
        have h' : some (V.ref x.2) = some v := by rw [← h]; simp [valV, e]
        exact ⟨x.2, by rw [← e]; exact List.mem_cons_self, (Option.some.inj h').symm⟩
      · intro h
        have h' : valV (((x :: r).map fun sa => ((Sum.inl sa.1 : Key), V.ref sa.2))) (Sum.inl s) = some (V.ref x.2) := by simp [valV, e]
        rw [h'] at h; cases h
    · have e' : ¬ ((Sum.inl x.1 : Key) = Sum.inl s) := fun z => e (Sum.inl.inj z)
      have eq : valV (((x :: r).map fun sa => ((Sum.inl sa.1 : Key), V.ref sa.2))) (Sum.inl s) = valV ((r.map fun sa => ((Sum.inl sa.1 : Key), V.ref sa.2))) (Sum.inl s) := by
        simp [valV, e]
      rw [eq]
      refine ⟨fun v h => ?_, fun h => ?_⟩
      · obtain ⟨b, h1, h2⟩ := ih.1 v h
        exact ⟨b, List.mem_cons_of_mem _ h1, h2⟩
      · simp only [List.map_cons, List.mem_cons, not_or]
        exact ⟨fun z => e z.symm, ih.2 h⟩
/-- a new row -/
theorem GAt.addrow {C : Addr} {H : Hp} {a : GA} {rows : List (Int × Addr)} {q : List Sq} {s : Int} {p : Addr} (G : GAt C H a rows q) (hp : H p = none) (hs : s ∉ rows.map (·.1)) (h0 : 0 ≤ s) (h7 : s ≤ 7) :
    GAt C (L2.upd (L2.upd H p (.lst [])) a.dp (.dK ((rows.map fun sa => ((Sum.inl sa.1 : Key), V.ref sa.2)) ++ [((Sum.inl s : Key), V.ref p)]))) a (rows ++ [(s, p)]) q := by
  have G1 := G.same (same_upd (o := .lst []) hp)
  obtain ⟨tups, mk, spt, D⟩ := G1.da
  obtain ⟨⟨g1, g2, g3, g4, g5, g6⟩, ⟨n1, n2, n3, n4, n5⟩, ⟨m1, m2, m3, m4⟩, ⟨l1, l2, l3⟩, ⟨v1, v2⟩, s1, hr⟩ := nd_of G.nd
  have hdp : ∀ xs, L2.upd H p (.lst []) a.dp ≠ some (.tup xs) := fun xs e => by rw [G1.pl] at e; cases e
  have out : ∀ c xs o, L2.upd H p (.lst []) c = some (.tup xs) → L2.upd (L2.upd H p (.lst [])) a.dp o c = some (.tup xs) := fun c xs o e => by
    rw [upd_ne (by rintro rfl; exact hdp _ e)]; exact e
  refine ⟨by rw [upd_ne g6]; exact G1.ob, ⟨tups, mk, spt, by rw [upd_ne n5]; exact D.hn, by rw [upd_ne m4]; exact D.hm, by rw [upd_ne l3]; exact D.hl, by rw [upd_ne v2]; exact D.hv, by rw [upd_ne s1]; exact D.hs, D.lt, D.lm, D.ls,
    fun i t m h1 h2 => out _ _ _ (D.tu i t m h1 h2), fun i v S h1 h2 => (D.sp i v S h1 h2).keep fun b xs e => out _ _ _ e, D.md⟩, G1.wf, G1.qn, by rw [upd_same, List.map_append]; rfl, ?_, ?_, fun s' h' => ?_, fun s' b' h' => ?_⟩
  · have hout := G.new_out hp
    have hg : a.g ≠ p := ne_of_none G.ob hp
    have z := G.nd
    rw [List.nodup_cons] at z ⊢
    have em : a.muts (rows ++ [(s, p)]) = a.muts rows ++ [p] := by simp [GA.muts]
    rw [em]
    refine ⟨fun h => ?_, ?_⟩
    · rcases List.mem_append.mp h with h | h
      · exact z.1 h
      · simp only [List.mem_singleton] at h; exact hg h
    · rw [List.nodup_append]
      refine ⟨z.2, by simp, fun x hx y hy e => ?_⟩
      simp only [List.mem_singleton] at hy
      subst hy
      exact hout (e ▸ hx)
  · rw [List.map_append, List.nodup_append]
    refine ⟨G.rn, by simp, fun x hx y hy e => ?_⟩
    simp only [List.map_cons, List.map_nil, List.mem_singleton] at hy
    subst hy
    exact hs (e ▸ hx)
  · rw [List.map_append] at h'
    rcases List.mem_append.mp h' with h' | h'
    · exact G.rs s' h'
    · simp only [List.map_cons, List.map_nil, List.mem_singleton] at h'
      subst h'; exact ⟨h0, h7⟩
  · rcases List.mem_append.mp h' with h' | h'
    · obtain ⟨ns, e1, e2⟩ := G1.ro s' b' h'
      obtain ⟨_, _, _, _, _, _, r7⟩ := hr s' b' h'
      exact ⟨ns, by rw [upd_ne r7]; exact e1, e2⟩
    · simp only [List.mem_singleton, Prod.mk.injEq] at h'
      obtain ⟨rfl, rfl⟩ := h'
      have : b' ≠ a.dp := (ne_of_none G.pl hp).symm
      exact ⟨[], by rw [upd_ne this, upd_same]; rfl, fun i n h => by simp at h⟩
theorem fr_muts {a : GA} {rows : List (Int × Addr)} {H H' : Hp} (h : Fr a.m5 H H') : Fr (a.muts rows) H H' := h.mono fun b hb => List.mem_append_left _ hb
theorem row_mem {a : GA} {rows : List (Int × Addr)} {s : Int} {b : Addr} (h : (s, b) ∈ rows) : b ∈ a.muts rows :=
  List.mem_append_right _ (List.mem_cons_of_mem _ (List.mem_map_of_mem (f := fun sa : Int × Addr => sa.2) h))
/-- knit's and cell's way: the rows stay -/
theorem GStep.m5 {C : Addr} {H H1 H2 : Hp} {a : GA} {rows r1 : List (Int × Addr)} {q q1 q2 : List Sq} (x : GStep C H a rows q H1 r1 q1) (G : GAt C H2 a r1 q2) (p : q1 <+: q2) (f : Fr a.m5 H1 H2) : GStep C H a rows q H2 r1 q2 :=
  x.trans ⟨G, p, fr_muts f, fun _ h => .inl h⟩
theorem GStep.row {C : Addr} {H H1 : Hp} {a : GA} {rows r1 : List (Int × Addr)} {q q1 : List Sq} {s : Int} {b : Addr} {ns : List Nat} (x : GStep C H a rows q H1 r1 q1) (h : (s, b) ∈ r1) (hv : ∀ (i : Nat) n, ns[i]? = some n → q1[n]? = some (Sq.even i s)) :
    GStep C H a rows q (L2.upd H1 b (.lst (ns.map fun (n : Nat) => V.int (n : Int)))) r1 q1 :=
  x.trans ⟨x.gat.row h hv, List.prefix_refl _, fun c o e n => by rw [upd_ne (by rintro rfl; exact n (row_mem h))]; exact e, fun _ h => .inl h⟩
theorem GStep.same {C : Addr} {H H1 H2 : Hp} {a : GA} {rows r1 : List (Int × Addr)} {q q1 : List Sq} (x : GStep C H a rows q H1 r1 q1) (s : Same H1 H2) : GStep C H a rows q H2 r1 q1 :=
  x.trans ⟨x.gat.same s, List.prefix_refl _, fr_of s, fun _ h => .inl h⟩
theorem row_not5 {C : Addr} {H : Hp} {a : GA} {rows : List (Int × Addr)} {q : List Sq} {s : Int} {b : Addr} (G : GAt C H a rows q) (h : (s, b) ∈ rows) : b ∉ a.m5 := by
  obtain ⟨_, _, _, _, _, _, hr⟩ := nd_of G.nd
  obtain ⟨r1, r2, r3, r4', r5, r6, r7⟩ := hr s b h
  simp [GA.m5, r2, r3, r4', r5, r6]
theorem map_int_len (ns : List Nat) : (ns.map fun (n : Nat) => V.int (n : Int)).length = ns.length := List.length_map _
section
variable {P : Program} {w : World} {K : PySem.W.Frag} {mg : Str → Option Value} {base : Heap}
def sp_even (C : Addr) : Sp := fun vs H Q _ => ∃ (a : GA) (rows : List (Int × Addr)) (q : List Sq) (l : Nat) (s : Int), vs = [.ref a.g, .int (l : Int), .int s] ∧ GAt C H a rows q ∧ l ≤ 60 ∧ 0 ≤ s ∧ s ≤ 7 ∧ q.length + 100 < 16000000 ∧
  ∀ H' rows' q' (n : Nat), GStep C H a rows q H' rows' q' → q'.length ≤ q.length + l + 1 → q'[n]? = some (Sq.even l s) → Q (.int (n : Int)) H'
theorem ok_even (T : Env fa fn K mg) : Good P w K mg base CX0 4 ("Grove", some "even") ["self", "level", "state"] (sp_even (CG K)) := by
  have G_Grove_cell := ok_cell (P := P) (w := w) (base := base) T
  have G_Grove_knit := ok_knit (P := P) (w := w) (base := base) T
  refine good_mk T 9 (d := d_Grove_even) (N := ["self", "level", "state", "row", "one"]) (ps := ["self", "level", "state"]) rfl rfl sc_Grove_even (fun _ _ _ _ _ _ us hl => match us, hl with | [_, _, _], _ => rfl) (fun vs H Q E h => ?_) (fun f cdv A outer σ0 H vs Q E hr h => ?_)
  · obtain ⟨a, rows, q, l, s, rfl, _⟩ := h; rfl
  · obtain ⟨a, rows, q, l, s, rfl, G, hl, h0, h7, hlen, k⟩ := h
    have hu := hu_of hr
    have cl : Cls K (CG K) := T.cls 13
    obtain ⟨na1, na2, na3, na4, na5, na6⟩ := noats T
    have ob := G.ob
    have hsz := sizeBig
    have mp1 := mp_cell (C := CG K)
    have mp2 := mp_knit (C := CG K)
    refine ⟨_, (pss_cons (ps_set (i := 3) sc_Grove_even.nd rfl (Or.inl rfl) (pe_dsetd (pe_fldK K rfl (pv 0) rfl) (pv 2) (pe_lst pa_nil) ⟨rfl, rfl, rfl, rfl⟩))
      (pss_cons (ps_if (pt_cmpR op_eq (pe_callB (call_lenK K rfl) (by rfl) (T.free 4) (by decide +kernel) (pa_cons (pv 3) pa_nil)) pe_int (nomark _)) (pss_one (ps_expr (pe_bm PySem.F.plainAttrs_list PySem.F.slot_list_append PySem.F.type_list_append mt_append (pv 3) (pa_cons (pe_mgK K rfl (pv 0) (T.cls 13) (T.meth 16) G_Grove_cell (hr.mono (by decide)) (pa_cons (pv 2) pa_nil)) pa_nil)))) pss_nil)
      (pss_cons (ps_while PassesOwn.never (pt_cmpR op_le (pe_callB (call_lenK K rfl) (by rfl) (T.free 4) (by decide +kernel) (pa_cons (pv 3) pa_nil)) (pv 1) (nomark _)) (pss_cons (ps_set (i := 4) sc_Grove_even.nd rfl (Or.inl rfl) (pe_ix (ix_listK K rfl) (pv 3) (pe_un un_neg pe_int) (fun _ _ => rfl)))
      (pss_one (ps_expr (pe_bm PySem.F.plainAttrs_list PySem.F.slot_list_append PySem.F.type_list_append mt_append (pv 3) (pa_cons (pe_mgK K rfl (pv 0) (T.cls 13) (T.meth 17) G_Grove_knit (hr.mono (by decide)) (pa_cons (pv 4) (pa_cons (pv 4) (pa_cons (pv 4) (pa_cons (pv 4) pa_nil))))) pa_nil))))))
      (pss_one (ps_ret (pe_ix (ix_listK K rfl) (pv 3) (pv 1) (fun _ _ => rfl))))))), ?_⟩
    -- row = self.plain.setdefault(state, [])
    refine rd_cut (fun σ H1 => ∃ (r1 : List (Int × Addr)) (b : Addr) (ns : List Nat), σ = [some (.ref a.g), some (.int (l : Int)), some (.int s), some (.ref b), none] ∧ GStep (CG K) H a rows q H1 r1 q ∧ (s, b) ∈ r1 ∧
      H1 b = some (.lst (ns.map fun (n : Nat) => V.int (n : Int))) ∧ ∀ (i : Nat) n, ns[i]? = some n → q[n]? = some (Sq.even i s)) (by walk_at "mono") ?_ ?_
    · walk_at "rd"
      refine rd_isD G.pl ?_
      walk_at "rd"
      refine rd_new (hn := by show 0 ≤ sizeLine; decide) fun p hp => ?_
      have sm := same_upd (o := .lst []) hp
      have G1 := G.same sm
      have S1 := (GStep.refl G).same sm
      have rl : rows.length ≤ 8 := by have z := states_len G.rn G.rs; rw [List.length_map] at z; exact z
      refine ⟨_, Sum.inl s, G1.pl, rfl, by rw [List.length_map]; exact small1000 (by omega), fun v hv => ?_, fun hv => ?_⟩
      · obtain ⟨b, hb, rfl⟩ := rows_look.1 v hv
        obtain ⟨ns, e1, e2⟩ := G1.ro s b hb
        walk_at "rd"
        exact ⟨rows, b, ns, rfl, S1, hb, e1, e2⟩
      · rw [putK_new _ hv]
        walk_at "rd"
        have G2 := G.addrow hp (rows_look.2 hv) h0 h7
        refine ⟨_, p, [], rfl, ⟨G2, List.prefix_refl _, fun b o e n => ?_, fun b hb => ?_⟩, List.mem_append_right _ (List.mem_singleton_self _), ?_, fun i n h => by simp at h⟩
        · rw [upd_ne (fun z => n (by rw [z]; simp [GA.muts])), upd_ne (ne_of_none e hp)]; exact e
        · have em : a.muts (rows ++ [(s, p)]) = a.muts rows ++ [p] := by simp [GA.muts]
          rw [em] at hb
          rcases List.mem_append.mp hb with hb | hb
          · exact .inl hb
          · simp only [List.mem_singleton] at hb; subst hb; exact .inr hp
        · rw [upd_ne (ne_of_none G.pl hp).symm, upd_same]; rfl
    rintro σ H1 ⟨r1, b, ns, rfl, S1, hb, e1, e2⟩
    -- if len(row) == 0: row.append(self.cell(state))
    refine rd_cut (fun σ H2 => ∃ (q2 : List Sq) (ns2 : List Nat), σ = [some (.ref a.g), some (.int (l : Int)), some (.int s), some (.ref b), none] ∧ GStep (CG K) H a rows q H2 r1 q2 ∧
      H2 b = some (.lst (ns2.map fun (n : Nat) => V.int (n : Int))) ∧ (∀ (i : Nat) n, ns2[i]? = some n → q2[n]? = some (Sq.even i s)) ∧ 0 < ns2.length ∧ (q2.length ≤ q.length ∨ q2.length ≤ q.length + ns2.length ∧ ns2.length ≤ l + 1)) (by walk_at "mono") ?_ ?_
    · have ob1 := S1.gat.ob
      walk_at "rd"
      refine rd_len (SqL.of e1) ?_
      walk_at "rd"
      rw [map_int_len]
      refine ite_d (fun hz => ?_) (fun hz => ?_)
      · have hns : ns = [] := List.length_eq_zero_iff.mp (by omega)
        subst hns
        walk_at "rd"
        refine rd_tyL e1 ?_
        walk_at "rd"
        refine rd_methR S1.gat.ob (by rfl) ?_
        walk_at "rd"
        refine ⟨a, r1, q, s, rfl, S1.gat, h0, h7, by omega, fun H2 q2 n G2 pre len en fr => ?_⟩
        walk_at "rd"
        have eb : H2 b = some (.lst []) := fr _ _ e1 (row_not5 S1.gat hb)
        refine rd_append eb (by show 0 < sizeLine; decide) ?_
        walk_at "rd"
        have S2 := S1.m5 G2 pre fr
        have hv : ∀ (i : Nat) m, [n][i]? = some m → q2[m]? = some (Sq.even i s) := fun i m h => by
          cases i with
          | zero => cases h; exact en
          | succ i => simp at h
        exact ⟨q2, [n], rfl, S2.row hb hv, upd_same, hv, by simp, .inr ⟨by simp; omega, by simp⟩⟩
      · walk_at "rd"
        exact ⟨q, ns, rfl, S1, e1, e2, by omega, .inl (Nat.le_refl _)⟩
    rintro σ H2 ⟨q2, ns2, rfl, S2, e3, e4, hpos, hcnt⟩
    -- while len(row) <= level
    refine rd_cut (fun σ H3 => ∃ (q3 : List Sq) (ns3 : List Nat) (x : Option V), σ = [some (.ref a.g), some (.int (l : Int)), some (.int s), some (.ref b), x] ∧ GStep (CG K) H a rows q H3 r1 q3 ∧
      H3 b = some (.lst (ns3.map fun (n : Nat) => V.int (n : Int))) ∧ (∀ (i : Nat) n, ns3[i]? = some n → q3[n]? = some (Sq.even i s)) ∧ l < ns3.length ∧ q3.length ≤ q.length + l + 1) (by walk_at "mono") ?_ ?_
    · refine while_by (fun σ H3 => ∃ (q3 : List Sq) (ns3 : List Nat) (x : Option V), σ = [some (.ref a.g), some (.int (l : Int)), some (.int s), some (.ref b), x] ∧ GStep (CG K) H a rows q H3 r1 q3 ∧
        H3 b = some (.lst (ns3.map fun (n : Nat) => V.int (n : Int))) ∧ (∀ (i : Nat) n, ns3[i]? = some n → q3[n]? = some (Sq.even i s)) ∧ 0 < ns3.length ∧ q3.length + ns2.length ≤ q2.length + ns3.length ∧ (ns3.length ≤ ns2.length ∨ ns3.length ≤ l + 1) ∧ ns2.length ≤ ns3.length)
        (fun σ H3 => match H3 b with | some (.lst xs) => l + 1 - xs.length | _ => 0) ?_ ?_ (by
          have z : MonT (tTest (tOp (rI0 fun i j => V.bl (decide (i ≤ j))) (tCB (rLenS K) (tCons (tVar 3) tNil)) (tVar 1))) := by walk_at "mono"
          exact z)
      · exact ⟨q2, ns2, none, rfl, S2, e3, e4, hpos, Nat.le_refl _, .inl (Nat.le_refl _), Nat.le_refl _⟩
      · rintro σ H3 ⟨q3, ns3, x, rfl, S3, f3, f4, pos3, cnt3, le3, ge3⟩
        have ob3 := S3.gat.ob
        walk_at "rd"
        refine rd_len (SqL.of f3) ?_
        walk_at "rd"
        rw [map_int_len]
        refine ite_d (fun hz => ?_) (fun hz => ?_)
        · walk_at "rd"
          obtain ⟨init, last, rfl⟩ : ∃ init last, ns3 = init ++ [last] := ⟨ns3.dropLast, ns3.getLast (by intro z; simp [z] at pos3), (List.dropLast_concat_getLast _).symm⟩
          have hl1 : q3[last]? = some (Sq.even init.length s) := f4 init.length last (by simp)
          refine rd_ixL (SqL.of f3) (by rw [List.map_append]; exact atI_last _ _) ?_
          walk_at "rd"
          refine rd_tyL f3 ?_
          walk_at "rd"
          refine rd_methR S3.gat.ob (by rfl) ?_
          walk_at "rd"
          have hlen3 : init.length + 1 ≤ l := by simp at hz; omega
          refine ⟨a, r1, q3, Sq.even init.length s, Sq.even init.length s, Sq.even init.length s, Sq.even init.length s, last, last, last, last, rfl, S3.gat, hl1, hl1, hl1, hl1, Sq.wf_even h0 h7 (init.length + 1), by rw [Sq.level_even]; omega, ?_, fun H4 q4 n G4 pre len en fr => ?_⟩
          · simp only [List.length_append, List.length_cons, List.length_nil] at cnt3 le3 ge3
            omega
          walk_at "rd"
          have eb : H4 b = some (.lst ((init ++ [last]).map fun (n : Nat) => V.int (n : Int))) := fr _ _ f3 (row_not5 S3.gat hb)
          refine rd_append eb (by rw [map_int_len]; simp; exact small1000 (by omega)) ?_
          walk_at "rd"
          have S4 := S3.m5 G4 pre fr
          have hv : ∀ (i : Nat) m, ((init ++ [last]) ++ [n])[i]? = some m → q4[m]? = some (Sq.even i s) := fun i m h => by
            by_cases hi : i < (init ++ [last]).length
            · rw [List.getElem?_append_left hi] at h
              exact pre_get pre (f4 i m h)
            · have hi2 := (List.getElem?_eq_some_iff.mp h).1
              have e : i = init.length + 1 := by simp at hi hi2; omega
              subst e
              simp at h
              subst h
              exact en
          have S5 := S4.row hb hv
          simp only [List.length_append, List.length_cons, List.length_nil] at cnt3 le3 ge3
          refine ⟨⟨q4, (init ++ [last]) ++ [n], _, rfl, ?_, ?_, hv, by simp, by simp; omega, by simp; omega, by simp; omega⟩, ?_⟩
          · rw [List.map_append] at S5; exact S5
          · rw [upd_same, List.map_append (l₂ := [n])]; rfl
          · have e1' : ∀ (xs : List V), H3 b = some (.lst xs) → (match H3 b with | some (.lst xs) => l + 1 - xs.length | _ => 0) = l + 1 - xs.length := fun xs e => by rw [e]
            rw [e1' _ f3]
            simp only [upd_same]
            simp
            omega
        · refine ⟨q3, ns3, x, rfl, S3, f3, f4, by omega, ?_⟩
          rcases hcnt with h | ⟨h, h'⟩
          · rcases le3 with h2 | h2 <;> omega
          · rcases le3 with h2 | h2 <;> omega
    rintro σ H3 ⟨q3, ns3, x, rfl, S3, f3, f4, hlt, hq⟩
    obtain ⟨n, hn⟩ : ∃ n, ns3[l]? = some n := ⟨ns3[l], by simp [hlt]⟩
    walk_at "rd"
    refine rd_ixL (SqL.of f3) (atI_nat (map_get (fun (n : Nat) => V.int (n : Int)) hn)) ?_
    exact k H3 r1 q3 n S3 hq (f4 l n hn)
end
end JF

/-! ### the asking methods (no refusal) -/
namespace JF
open PySem PySem.Spec PyProof.Rows L2
section
variable {P : Program} {w : World} {K : PySem.W.Frag} {mg : Str → Option Value} {base : Heap}
theorem at_lt {q : List Sq} {n : Nat} {S : Sq} (h : q[n]? = some S) : n < q.length := (List.getElem?_eq_some_iff.mp h).1
def sp_asked (C : Addr) : Sp := fun vs H Q _ => ∃ (a : GA) (rows : List (Int × Addr)) (q : List Sq) (n : Nat) (S : Sq), vs = [.ref a.g, .int (n : Int)] ∧ GAt C H a rows q ∧ q[n]? = some S ∧ q.length ≤ 16000000 ∧ Q (.int (S.level : Int)) H
theorem mp_asked {C : Addr} : MonP (sp_asked C) := fun vs H Q Q' E h ⟨a, rows, q, n, S, x1, x2, x3, x4, k⟩ => ⟨a, rows, q, n, S, x1, x2, x3, x4, h _ _ k⟩
theorem ok_asked (T : Env fa fn K mg) : Good P w K mg base CX0 2 ("Grove", some "asked") ["self", "square"] (sp_asked (CG K)) := by
  have G_is_whole := ok_is_whole (P := P) (w := w) (base := base) T
  refine good_mk T 10 (d := d_Grove_asked) (N := ["self", "square"]) (ps := ["self", "square"]) rfl rfl sc_Grove_asked (fun _ _ _ _ _ _ us hl => match us, hl with | [_, _], _ => rfl) (fun vs H Q E h => ?_) (fun f cdv A outer s H vs Q E hr h => ?_)
  · obtain ⟨a, rows, q, n, S, rfl, _⟩ := h; rfl
  · obtain ⟨a, rows, q, n, S, rfl, G, hn, hlen, k⟩ := h
    have cl : Cls K (CG K) := T.cls 13
    obtain ⟨na1, na2, na3, na4, na5, na6⟩ := noats T
    have ob := G.ob
    have hlt := at_lt hn
    obtain ⟨tups, mk, spt, D⟩ := G.da
    refine ⟨_, (pss_cons (ps_if (PW.pt (pw_or (pt_not (pt_val (pe_cgK K rfl G_is_whole (hr.mono (by decide)) (T.glo 12) (pa_cons (pv 1) pa_nil)))) (pw_or1 (pt_not (pt_chain op_le op_lt pe_int (pv 1) (pe_gint (T.int 18) rfl)))))) pss_never pss_nil)
      (pss_one (ps_ret (pe_ix (ix_listK K rfl) (pe_fldK K rfl (pv 0) rfl) (pv 1) (fun _ _ => rfl))))), ?_⟩
    walk_at "rd"
    refine ⟨_, rfl, .inl ⟨_, rfl⟩, ?_⟩
    walk_at "rd"
    refine iteF ?_
    walk_at "rd"
    rw [decide_eq_true (show (0 : Int) ≤ (n : Int) by omega)]
    walk_at "rd"
    rw [decide_eq_true (show (n : Int) < 1000000000 by omega)]
    walk_at "rd"
    exact rd_ixL (SqL.of D.hl) (atI_nat (map_get (fun S : Sq => V.int (S.level : Int)) hn)) k
/-- what asks one square, and tells a value: the level and so on -/
def sp_level_of (C : Addr) : Sp := sp_asked C
theorem ok_level_of (T : Env fa fn K mg) : Good P w K mg base CX0 3 ("Grove", some "level_of") ["self", "square"] (sp_level_of (CG K)) := by
  have G_Grove_asked := ok_asked (P := P) (w := w) (base := base) T
  refine good_mk T 14 (d := d_Grove_level_of) (N := ["self", "square"]) (ps := ["self", "square"]) rfl rfl sc_Grove_level_of (fun _ _ _ _ _ _ us hl => match us, hl with | [_, _], _ => rfl) (fun vs H Q E h => ?_) (fun f cdv A outer s H vs Q E hr h => ?_)
  · obtain ⟨a, rows, q, n, S, rfl, _⟩ := h; rfl
  · obtain ⟨a, rows, q, n, S, rfl, G, hn, hlen, k⟩ := h
    have cl : Cls K (CG K) := T.cls 13
    refine ⟨_, (pss_one (ps_ret (pe_mgK K rfl (pv 0) (T.cls 13) (T.meth 20) G_Grove_asked (hr.mono (by decide)) (pa_cons (pv 1) pa_nil)))), ?_⟩
    walk_at "rd"
    refine rd_methR G.ob (by rfl) ?_
    walk_at "rd"
    exact ⟨a, rows, q, n, S, rfl, G, hn, hlen, k⟩
def sp_living (C : Addr) : Sp := fun vs H Q _ => ∃ (a : GA) (rows : List (Int × Addr)) (q : List Sq) (n : Nat) (S : Sq), vs = [.ref a.g, .int (n : Int)] ∧ GAt C H a rows q ∧ q[n]? = some S ∧ q.length ≤ 16000000 ∧ Q (.int S.lives) H
theorem mp_living {C : Addr} : MonP (sp_living C) := fun vs H Q Q' E h ⟨a, rows, q, n, S, x1, x2, x3, x4, k⟩ => ⟨a, rows, q, n, S, x1, x2, x3, x4, h _ _ k⟩
theorem ok_living (T : Env fa fn K mg) : Good P w K mg base CX0 3 ("Grove", some "living") ["self", "square"] (sp_living (CG K)) := by
  have G_Grove_asked := ok_asked (P := P) (w := w) (base := base) T
  refine good_mk T 17 (d := d_Grove_living) (N := ["self", "square"]) (ps := ["self", "square"]) rfl rfl sc_Grove_living (fun _ _ _ _ _ _ us hl => match us, hl with | [_, _], _ => rfl) (fun vs H Q E h => ?_) (fun f cdv A outer s H vs Q E hr h => ?_)
  · obtain ⟨a, rows, q, n, S, rfl, _⟩ := h; rfl
  · obtain ⟨a, rows, q, n, S, rfl, G, hn, hlen, k⟩ := h
    have cl : Cls K (CG K) := T.cls 13
    obtain ⟨na1, na2, na3, na4, na5, na6⟩ := noats T
    have ob := G.ob
    obtain ⟨tups, mk, spt, D⟩ := id G.da
    refine ⟨_, (pss_cons (ps_expr (pe_mgK K rfl (pv 0) (T.cls 13) (T.meth 20) G_Grove_asked (hr.mono (by decide)) (pa_cons (pv 1) pa_nil)))
      (pss_one (ps_ret (pe_ix (ix_listK K rfl) (pe_fldK K rfl (pv 0) rfl) (pv 1) (fun _ _ => rfl))))), ?_⟩
    walk_at "rd"
    refine rd_methR G.ob (by rfl) ?_
    walk_at "rd"
    refine ⟨a, rows, q, n, S, rfl, G, hn, hlen, ?_⟩
    walk_at "rd"
    exact rd_ixL (SqL.of D.hv) (atI_nat (map_get (fun S : Sq => V.int S.lives) hn)) k
def sp_span (C : Addr) : Sp := fun vs H Q _ => ∃ (a : GA) (rows : List (Int × Addr)) (q : List Sq) (n : Nat) (S : Sq), vs = [.ref a.g, .int (n : Int)] ∧ GAt C H a rows q ∧ q[n]? = some S ∧ q.length ≤ 16000000 ∧ ∀ v, SpanV H v S.span → Q v H
theorem mp_span {C : Addr} : MonP (sp_span C) := fun vs H Q Q' E h ⟨a, rows, q, n, S, x1, x2, x3, x4, k⟩ => ⟨a, rows, q, n, S, x1, x2, x3, x4, fun v hv => h _ _ (k v hv)⟩
theorem ok_span (T : Env fa fn K mg) : Good P w K mg base CX0 3 ("Grove", some "span") ["self", "square"] (sp_span (CG K)) := by
  have G_Grove_asked := ok_asked (P := P) (w := w) (base := base) T
  refine good_mk T 18 (d := d_Grove_span) (N := ["self", "square"]) (ps := ["self", "square"]) rfl rfl sc_Grove_span (fun _ _ _ _ _ _ us hl => match us, hl with | [_, _], _ => rfl) (fun vs H Q E h => ?_) (fun f cdv A outer s H vs Q E hr h => ?_)
  · obtain ⟨a, rows, q, n, S, rfl, _⟩ := h; rfl
  · obtain ⟨a, rows, q, n, S, rfl, G, hn, hlen, k⟩ := h
    have cl : Cls K (CG K) := T.cls 13
    obtain ⟨na1, na2, na3, na4, na5, na6⟩ := noats T
    have ob := G.ob
    obtain ⟨tups, mk, spt, D⟩ := id G.da
    refine ⟨_, (pss_cons (ps_expr (pe_mgK K rfl (pv 0) (T.cls 13) (T.meth 20) G_Grove_asked (hr.mono (by decide)) (pa_cons (pv 1) pa_nil)))
      (pss_one (ps_ret (pe_ix (ix_listK K rfl) (pe_fldK K rfl (pv 0) rfl) (pv 1) (fun _ _ => rfl))))), ?_⟩
    walk_at "rd"
    refine rd_methR G.ob (by rfl) ?_
    walk_at "rd"
    refine ⟨a, rows, q, n, S, rfl, G, hn, hlen, ?_⟩
    walk_at "rd"
    have hl : n < spt.length := by rw [D.ls]; exact at_lt hn
    exact rd_ixL (SqL.of D.hs) (atI_nat (by simp [hl] : spt[n]? = some spt[n])) (k _ (D.sp n _ S (by simp [hl]) hn))
/-- the quarters, as the tuple that stands there -/
def sp_quarters (C : Addr) : Sp := fun vs H Q _ => ∃ (a : GA) (rows : List (Int × Addr)) (q : List Sq) (n : Nat) (A B C' D : Sq), vs = [.ref a.g, .int (n : Int)] ∧ GAt C H a rows q ∧ q[n]? = some (.node A B C' D) ∧ q.length ≤ 16000000 ∧
  ∀ (t : Addr) (x y z u : Nat), H t = some (.tup [.int (x : Int), .int (y : Int), .int (z : Int), .int (u : Int)]) → q[x]? = some A → q[y]? = some B → q[z]? = some C' → q[u]? = some D → Q (.ref t) H
theorem mp_quarters {C : Addr} : MonP (sp_quarters C) := fun vs H Q Q' E h ⟨a, rows, q, n, A, B, C', D, x1, x2, x3, x4, k⟩ => ⟨a, rows, q, n, A, B, C', D, x1, x2, x3, x4, fun t x y z u e1 e2 e3 e4 e5 => h _ _ (k t x y z u e1 e2 e3 e4 e5)⟩
theorem ok_quarters (T : Env fa fn K mg) : Good P w K mg base CX0 3 ("Grove", some "quarters") ["self", "square"] (sp_quarters (CG K)) := by
  have G_Grove_asked := ok_asked (P := P) (w := w) (base := base) T
  refine good_mk T 15 (d := d_Grove_quarters) (N := ["self", "square"]) (ps := ["self", "square"]) rfl rfl sc_Grove_quarters (fun _ _ _ _ _ _ us hl => match us, hl with | [_, _], _ => rfl) (fun vs H Q E h => ?_) (fun f cdv A outer s H vs Q E hr h => ?_)
  · obtain ⟨a, rows, q, n, A, B, C', D, rfl, _⟩ := h; rfl
  · obtain ⟨a, rows, q, n, S1, S2, S3, S4, rfl, G, hn, hlen, k⟩ := h
    have cl : Cls K (CG K) := T.cls 13
    obtain ⟨na1, na2, na3, na4, na5, na6⟩ := noats T
    have ob := G.ob
    obtain ⟨tups, mk, spt, D⟩ := id G.da
    refine ⟨_, (pss_cons (ps_if (pt_cmpR op_eq (pe_mgK K rfl (pv 0) (T.cls 13) (T.meth 20) G_Grove_asked (hr.mono (by decide)) (pa_cons (pv 1) pa_nil)) pe_int (nomark _)) pss_never pss_nil)
      (pss_one (ps_ret (pe_ix (ix_listK K rfl) (pe_fldK K rfl (pv 0) rfl) (pv 1) (fun _ _ => rfl))))), ?_⟩
    walk_at "rd"
    refine rd_methR G.ob (by rfl) ?_
    walk_at "rd"
    refine ⟨a, rows, q, n, _, rfl, G, hn, hlen, ?_⟩
    walk_at "rd"
    refine ite_d (fun h => ?_) (fun h => ?_)
    · have : (Sq.node S1 S2 S3 S4).level = S1.level + 1 := rfl
      omega
    walk_at "rd"
    have hl : n < tups.length := by rw [D.lt]; exact at_lt hn
    have hm : n < mk.length := by rw [D.lm]; exact at_lt hn
    obtain ⟨x, y, z, u, e, h1, h2, h3, h4⟩ := D.md n mk[n] _ (by simp [hm]) hn
    have ht := D.tu n tups[n] mk[n] (by simp [hl]) (by simp [hm])
    rw [e] at ht
    refine rd_ixL (SqL.of D.hm) (atI_nat (map_get V.ref (by simp [hl] : tups[n]? = some tups[n]))) ?_
    exact k _ x y z u ht h1 h2 h3 h4
def sp_state_of (C : Addr) : Sp := fun vs H Q _ => ∃ (a : GA) (rows : List (Int × Addr)) (q : List Sq) (n : Nat) (s : Int), vs = [.ref a.g, .int (n : Int)] ∧ GAt C H a rows q ∧ q[n]? = some (.leaf s) ∧ q.length ≤ 16000000 ∧ Q (.int s) H
theorem mp_state_of {C : Addr} : MonP (sp_state_of C) := fun vs H Q Q' E h ⟨a, rows, q, n, S, x1, x2, x3, x4, k⟩ => ⟨a, rows, q, n, S, x1, x2, x3, x4, h _ _ k⟩
theorem ok_state_of (T : Env fa fn K mg) : Good P w K mg base CX0 3 ("Grove", some "state_of") ["self", "square"] (sp_state_of (CG K)) := by
  have G_Grove_asked := ok_asked (P := P) (w := w) (base := base) T
  refine good_mk T 16 (d := d_Grove_state_of) (N := ["self", "square"]) (ps := ["self", "square"]) rfl rfl sc_Grove_state_of (fun _ _ _ _ _ _ us hl => match us, hl with | [_, _], _ => rfl) (fun vs H Q E h => ?_) (fun f cdv A outer s H vs Q E hr h => ?_)
  · obtain ⟨a, rows, q, n, s, rfl, _⟩ := h; rfl
  · obtain ⟨a, rows, q, n, s, rfl, G, hn, hlen, k⟩ := h
    have cl : Cls K (CG K) := T.cls 13
    obtain ⟨na1, na2, na3, na4, na5, na6⟩ := noats T
    have ob := G.ob
    obtain ⟨tups, mk, spt, D⟩ := id G.da
    refine ⟨_, (pss_cons (ps_if (pt_cmpR op_gt (pe_mgK K rfl (pv 0) (T.cls 13) (T.meth 20) G_Grove_asked (hr.mono (by decide)) (pa_cons (pv 1) pa_nil)) pe_int (nomark _)) pss_never pss_nil)
      (pss_one (ps_ret (pe_ix (ix_tupK K rfl) (pe_ix (ix_listK K rfl) (pe_fldK K rfl (pv 0) rfl) (pv 1) (fun _ _ => rfl)) pe_int (fun _ _ => rfl))))), ?_⟩
    walk_at "rd"
    refine rd_methR G.ob (by rfl) ?_
    walk_at "rd"
    refine ⟨a, rows, q, n, _, rfl, G, hn, hlen, ?_⟩
    walk_at "rd"
    refine ite_d (fun h => ?_) (fun h => ?_)
    · have : (Sq.leaf s).level = 0 := rfl
      omega
    walk_at "rd"
    have hl : n < tups.length := by rw [D.lt]; exact at_lt hn
    have hm : n < mk.length := by rw [D.lm]; exact at_lt hn
    have e : mk[n] = [s] := D.md n mk[n] _ (by simp [hm]) hn
    have ht := D.tu n tups[n] mk[n] (by simp [hl]) (by simp [hm])
    rw [e] at ht
    refine rd_ixL (SqL.of D.hm) (atI_nat (map_get V.ref (by simp [hl] : tups[n]? = some tups[n]))) ?_
    walk_at "rd"
    exact k
def sp_leaf (C : Addr) : Sp := sp_cell C
theorem ok_leaf (T : Env fa fn K mg) : Good P w K mg base CX0 3 ("Grove", some "leaf") ["self", "state"] (sp_leaf (CG K)) := by
  have G_Grove_cell := ok_cell (P := P) (w := w) (base := base) T
  have G_is_state := ok_is_state (P := P) (w := w) (base := base) T
  refine good_mk T 11 (d := d_Grove_leaf) (N := ["self", "state"]) (ps := ["self", "state"]) rfl rfl sc_Grove_leaf (fun _ _ _ _ _ _ us hl => match us, hl with | [_, _], _ => rfl) (fun vs H Q E h => ?_) (fun f cdv A outer s H vs Q E hr h => ?_)
  · obtain ⟨a, rows, q, s, rfl, _⟩ := h; rfl
  · obtain ⟨a, rows, q, s, rfl, G, h0, h7, hlen, k⟩ := h
    have cl : Cls K (CG K) := T.cls 13
    refine ⟨_, (pss_cons (ps_if (pt_not (pt_val (pe_cgK K rfl G_is_state (hr.mono (by decide)) (T.glo 19) (pa_cons (pv 1) pa_nil)))) pss_never pss_nil)
      (pss_one (ps_ret (pe_mgK K rfl (pv 0) (T.cls 13) (T.meth 16) G_Grove_cell (hr.mono (by decide)) (pa_cons (pv 1) pa_nil))))), ?_⟩
    walk_at "rd"
    refine ⟨_, rfl, .inl ⟨_, rfl⟩, ?_⟩
    walk_at "rd"
    rw [stateV_ok h0 h7]
    walk_at "rd"
    walk_at "rd"
    refine rd_methR G.ob (by rfl) ?_
    walk_at "rd"
    exact ⟨a, rows, q, s, rfl, G, h0, h7, hlen, k⟩
def sp_solid (C : Addr) : Sp := fun vs H Q _ => ∃ (a : GA) (rows : List (Int × Addr)) (q : List Sq) (l : Nat) (s : Int), vs = [.ref a.g, .int (l : Int), .int s] ∧ GAt C H a rows q ∧ l ≤ 48 ∧ 0 ≤ s ∧ s ≤ 7 ∧ q.length + 100 < 16000000 ∧
  ∀ H' rows' q' (n : Nat), GStep C H a rows q H' rows' q' → q'.length ≤ q.length + l + 1 → q'[n]? = some (Sq.even l s) → Q (.int (n : Int)) H'
theorem mp_even {C : Addr} : MonP (sp_even C) := fun vs H Q Q' E h ⟨a, rows, q, l, s, x1, x2, x3, x4, x5, x6, k⟩ => ⟨a, rows, q, l, s, x1, x2, x3, x4, x5, x6, fun H' r' q' n g p l => h _ _ (k H' r' q' n g p l)⟩
theorem mp_solid {C : Addr} : MonP (sp_solid C) := fun vs H Q Q' E h ⟨a, rows, q, l, s, x1, x2, x3, x4, x5, x6, k⟩ => ⟨a, rows, q, l, s, x1, x2, x3, x4, x5, x6, fun H' r' q' n g p l => h _ _ (k H' r' q' n g p l)⟩
theorem ok_solid (T : Env fa fn K mg) : Good P w K mg base CX0 5 ("Grove", some "solid") ["self", "level", "state"] (sp_solid (CG K)) := by
  have G_Grove_even := ok_even (P := P) (w := w) (base := base) T
  have G_is_state := ok_is_state (P := P) (w := w) (base := base) T
  have G_is_whole := ok_is_whole (P := P) (w := w) (base := base) T
  refine good_mk T 13 (d := d_Grove_solid) (N := ["self", "level", "state"]) (ps := ["self", "level", "state"]) rfl rfl sc_Grove_solid (fun _ _ _ _ _ _ us hl => match us, hl with | [_, _, _], _ => rfl) (fun vs H Q E h => ?_) (fun f cdv A outer σ0 H vs Q E hr h => ?_)
  · obtain ⟨a, rows, q, l, s, rfl, _⟩ := h; rfl
  · obtain ⟨a, rows, q, l, s, rfl, G, hl, h0, h7, hlen, k⟩ := h
    have cl : Cls K (CG K) := T.cls 13
    refine ⟨_, (pss_cons (ps_if (PW.pt (pw_or (pt_not (pt_val (pe_cgK K rfl G_is_whole (hr.mono (by decide)) (T.glo 12) (pa_cons (pv 1) pa_nil)))) (pw_or1 (pt_not (pt_chain op_le op_le pe_int (pv 1) (pe_gint (T.int 21) rfl)))))) pss_never pss_nil)
      (pss_cons (ps_if (pt_not (pt_val (pe_cgK K rfl G_is_state (hr.mono (by decide)) (T.glo 19) (pa_cons (pv 2) pa_nil)))) pss_never pss_nil)
      (pss_one (ps_ret (pe_mgK K rfl (pv 0) (T.cls 13) (T.meth 22) G_Grove_even (hr.mono (by decide)) (pa_cons (pv 1) (pa_cons (pv 2) pa_nil))))))), ?_⟩
    walk_at "rd"
    refine ⟨_, rfl, .inl ⟨_, rfl⟩, ?_⟩
    walk_at "rd"
    refine iteF ?_
    walk_at "rd"
    rw [decide_eq_true (show (0 : Int) ≤ (l : Int) by omega)]
    walk_at "rd"
    rw [decide_eq_true (show (l : Int) ≤ 48 by omega)]
    walk_at "rd"
    refine ⟨_, rfl, .inl ⟨_, rfl⟩, ?_⟩
    walk_at "rd"
    rw [stateV_ok h0 h7]
    walk_at "rd"
    walk_at "rd"
    refine rd_methR G.ob (by rfl) ?_
    walk_at "rd"
    exact ⟨a, rows, q, l, s, rfl, G, by omega, h0, h7, hlen, k⟩
/-- four are joined -/
def sp_joined (C : Addr) : Sp := fun vs H Q _ => ∃ (a : GA) (rows : List (Int × Addr)) (q : List Sq) (A B C' D : Sq) (na nb nc nd : Nat), vs = [.ref a.g, .int (na : Int), .int (nb : Int), .int (nc : Int), .int (nd : Int)] ∧ GAt C H a rows q ∧
  q[na]? = some A ∧ q[nb]? = some B ∧ q[nc]? = some C' ∧ q[nd]? = some D ∧ B.level = A.level ∧ C'.level = A.level ∧ D.level = A.level ∧ A.level ≤ 47 ∧ q.length < 16000000 ∧
  ∀ H' q' (n : Nat), GStep C H a rows q H' rows q' → q'.length ≤ q.length + 1 → q'[n]? = some (.node A B C' D) → Fr a.m5 H H' → Q (.int (n : Int)) H'
theorem mp_joined {C : Addr} : MonP (sp_joined C) := fun vs H Q Q' E h ⟨a, rows, q, A, B, C', D, na, nb, nc, nd, x1, x2, x3, x4, x5, x6, x7, x8, x9, y1, y2, k⟩ => ⟨a, rows, q, A, B, C', D, na, nb, nc, nd, x1, x2, x3, x4, x5, x6, x7, x8, x9, y1, y2, fun H' q' n g p l f => h _ _ (k H' q' n g p l f)⟩
theorem ok_joined (T : Env fa fn K mg) : Good P w K mg base CX0 4 ("Grove", some "joined") ["self", "a", "b", "c", "d"] (sp_joined (CG K)) := by
  have G_Grove_asked := ok_asked (P := P) (w := w) (base := base) T
  have G_Grove_knit := ok_knit (P := P) (w := w) (base := base) T
  refine good_mk T 12 (d := d_Grove_joined) (N := ["self", "a", "b", "c", "d", "levels", "one"]) (ps := ["self", "a", "b", "c", "d"]) rfl rfl sc_Grove_joined (fun _ _ _ _ _ _ us hl => match us, hl with | [_, _, _, _, _], _ => rfl) (fun vs H Q E h => ?_) (fun f cdv A outer s H vs Q E hr h => ?_)
  · obtain ⟨a, rows, q, A, B, C', D, na, nb, nc, nd, rfl, _⟩ := h; rfl
  · obtain ⟨a, rows, q, A, B, C', D, na, nb, nc, nd, rfl, G, ha, hb, hc, hd, l1, l2, l3, hlv, hlen, k⟩ := h
    have cl : Cls K (CG K) := T.cls 13
    have mp1 := mp_asked (C := CG K)
    refine ⟨_, (pss_cons (ps_setLc (i := 5) (own := [("one", 6)]) (tt := tYes) rfl sc_Grove_joined.nd rfl rfl (sw_true rfl rfl rfl (by decide +kernel)) (pi_tupK K rfl (pe_tup (pa_cons (pv 1) (pa_cons (pv 2) (pa_cons (pv 3) (pa_cons (pv 4) pa_nil)))))) (blkOk_by (own := [("one", 6)]) (N := ["self", "a", "b", "c", "d", "levels", "one"]) (sc := defScope st_Grove_joined) (by decide +kernel)) (fun _ _ _ _ _ => by exact (pg_name (i := 6) sc_Grove_joined.nd rfl (Or.inl rfl))) (fun _ _ _ _ _ => by exact pts_nil) (fun _ _ _ _ _ => by exact (pe_mgK K rfl (pv 0) (T.cls 13) (T.meth 20) G_Grove_asked (hr.mono (by decide)) (pa_cons (pv 6) pa_nil))))
      (pss_cons (ps_if (PW.pt (pw_or (pt_cmpR (op_neDK K rfl hr.units) (pv 5) (pe_op op_rep (pe_lst (pa_cons (pe_ix (ix_listK K rfl) (pv 5) pe_int (fun _ _ => rfl)) pa_nil)) pe_int) (nomark _)) (pw_or1 (pt_cmpR op_ge (pe_ix (ix_listK K rfl) (pv 5) pe_int (fun _ _ => rfl)) (pe_gint (T.int 21) rfl) (nomark _))))) pss_never pss_nil)
      (pss_one (ps_ret (pe_mgK K rfl (pv 0) (T.cls 13) (T.meth 17) G_Grove_knit (hr.mono (by decide)) (pa_cons (pv 1) (pa_cons (pv 2) (pa_cons (pv 3) (pa_cons (pv 4) pa_nil))))))))), ?_⟩
    walk_at "rd"
    refine rd_new (hn := by show 4 ≤ sizeLine; decide) fun t ht => ?_
    have sm := same_upd (o := HO.tup [V.int (na : Int), V.int (nb : Int), V.int (nc : Int), V.int (nd : Int)]) ht
    have G1 := G.same sm
    have hT : (upd H t (HO.tup [V.int (na : Int), V.int (nb : Int), V.int (nc : Int), V.int (nd : Int)])) t = some (.tup [V.int (na : Int), V.int (nb : Int), V.int (nc : Int), V.int (nd : Int)]) := upd_same
    generalize hH1 : upd H t (HO.tup [V.int (na : Int), V.int (nb : Int), V.int (nc : Int), V.int (nd : Int)]) = H1 at sm G1 hT ⊢
    refine ⟨t, rfl, ⟨_, SqT.of hT⟩, fun dl hdl => ?_⟩
    have ndl : ∀ b o, H1 b = some o → b ≠ dl := fun b o e => ne_of_none e hdl
    have kl : ∀ xs, Same H1 (upd H1 dl (.lst xs)) := fun xs => same_upd hdl
    refine lc_tup (K := K) (xs := [V.int (na : Int), V.int (nb : Int), V.int (nc : Int), V.int (nd : Int)]) (fun i H' => H' = upd H1 dl (.lst (([(A.level : Int), (A.level : Int), (A.level : Int), (A.level : Int)].map V.int).take i))) rfl (fun i H' _ e => SqT.of (by rw [e]; exact kl _ _ _ hT)) ?_ ?_
    · rintro i x H' hx rfl
      obtain ⟨n, S, rfl, e1, e2, e3⟩ : ∃ (n : Nat) (S : Sq), x = .int (n : Int) ∧ q[n]? = some S ∧ ([(A.level : Int), (A.level : Int), (A.level : Int), (A.level : Int)].map V.int)[i]? = some (V.int (S.level : Int)) ∧ i < 4 := by
        match i, hx with
        | 0, hx => exact ⟨na, A, (Option.some.inj hx).symm, ha, rfl, by omega⟩
        | 1, hx => exact ⟨nb, B, (Option.some.inj hx).symm, hb, by rw [l1]; rfl, by omega⟩
        | 2, hx => exact ⟨nc, C', (Option.some.inj hx).symm, hc, by rw [l2]; rfl, by omega⟩
        | 3, hx => exact ⟨nd, D, (Option.some.inj hx).symm, hd, by rw [l3]; rfl, by omega⟩
      walk_at "rd"
      refine ⟨rfl, ?_⟩
      walk_at "rd"
      refine rd_methR (kl _ _ _ G1.ob) (by rfl) ?_
      walk_at "rd"
      refine ⟨a, rows, q, n, S, rfl, G1.same (kl _), e1, by omega, _, upd_same, ?_, ?_⟩
      · rw [List.length_take]; exact small1000 (by omega)
      · rw [upd_upd, take_snoc e2]
    · rintro H' rfl
      have G2 := G1.same (kl [V.int (A.level : Int), V.int (A.level : Int), V.int (A.level : Int), V.int (A.level : Int)])
      have hL : (upd H1 dl (.lst [V.int (A.level : Int), V.int (A.level : Int), V.int (A.level : Int), V.int (A.level : Int)])) dl = some (.lst ([(A.level : Int), (A.level : Int), (A.level : Int), (A.level : Int)].map V.int)) := upd_same
      have sm2 := sm.trans (kl [V.int (A.level : Int), V.int (A.level : Int), V.int (A.level : Int), V.int (A.level : Int)])
      show tSeq _ _ _ _ (upd H1 dl (.lst [V.int (A.level : Int), V.int (A.level : Int), V.int (A.level : Int), V.int (A.level : Int)]))
      generalize hH2 : upd H1 dl (.lst [V.int (A.level : Int), V.int (A.level : Int), V.int (A.level : Int), V.int (A.level : Int)]) = H2 at G2 hL sm2 ⊢
      walk_at "rd"
      refine rd_ixL (SqL.of hL) (v := .int (A.level : Int)) rfl ?_
      walk_at "rd"
      refine rd_new (hn := by show 1 ≤ sizeLine; decide) fun p1 hp1 => ?_
      walk_at "rd"
      refine rd_rep (xs := [V.int (A.level : Int)]) upd_same (by decide) (by decide) (by show 1 * 4 ≤ sizeLine; decide) fun p2 hp2 => ?_
      have kp1 := same_upd (o := .lst [V.int (A.level : Int)]) hp1
      have kp2 := same_upd (o := .lst (List.replicate (Int.toNat 4) [V.int (A.level : Int)]).flatten) hp2
      refine rd_neDI (ns := [(A.level : Int), (A.level : Int), (A.level : Int), (A.level : Int)]) (ms := [(A.level : Int), (A.level : Int), (A.level : Int), (A.level : Int)]) (SqL.of (kp2 _ _ (kp1 _ _ hL))) (SqL.of upd_same) rfl rfl ?_
      rw [SeqAt.eqv_refl _ rfl]
      walk_at "rd"
      refine rd_ixL (SqL.of (kp2 _ _ (kp1 _ _ hL))) (v := .int (A.level : Int)) rfl ?_
      walk_at "rd"
      refine ite_d (fun h => ?_) (fun h => ?_)
      · omega
      walk_at "rd"
      have G3 := (G2.same kp1).same kp2
      have sm3 := (sm2.trans kp1).trans kp2
      refine rd_methR G3.ob (by rfl) ?_
      walk_at "rd"
      refine ⟨a, rows, q, A, B, C', D, na, nb, nc, nd, rfl, G3, ha, hb, hc, hd, ?_, by omega, hlen, fun H' q' n g p l e f => ?_⟩
      · have wf := G.wf
        exact ⟨wf _ (List.mem_of_getElem? ha), wf _ (List.mem_of_getElem? hb), wf _ (List.mem_of_getElem? hc), wf _ (List.mem_of_getElem? hd), l1, l2, l3⟩
      · exact k H' q' n (((GStep.refl G).same sm3).m5 g p f) l e ((fr_of sm3).trans f)
end
end JF

/-! ### helpers of the laws: the script's numbers, lists of tuples of numbers -/
namespace JF
open PySem PySem.Spec PyProof.Rows L2
/-- tuples of whole numbers, one by one -/
def TR (H : Hp) : List Addr → List (List Int) → Prop
  | [], [] => True
  | r :: rs, x :: xs => H r = some (.tup (x.map V.int)) ∧ TR H rs xs
  | _, _ => False
theorem TR.len {H : Hp} : ∀ {rs : List Addr} {xs : List (List Int)}, TR H rs xs → rs.length = xs.length
  | [], [], _ => rfl
  | r :: rs, x :: xs, h => congrArg (· + 1) (TR.len h.2)
  | [], _ :: _, h => h.elim
  | _ :: _, [], h => h.elim
theorem TR.keep {H H' : Hp} (k : ∀ b ys, H b = some (.tup ys) → H' b = some (.tup ys)) : ∀ {rs : List Addr} {xs : List (List Int)}, TR H rs xs → TR H' rs xs
  | [], [], _ => trivial
  | r :: rs, x :: xs, h => ⟨k _ _ h.1, TR.keep k h.2⟩
  | [], _ :: _, h => h.elim
  | _ :: _, [], h => h.elim
theorem TR.app {H : Hp} {r : Addr} {x : List Int} (hr : H r = some (.tup (x.map V.int))) : ∀ {rs : List Addr} {xs : List (List Int)}, TR H rs xs → TR H (rs ++ [r]) (xs ++ [x])
  | [], [], _ => ⟨hr, trivial⟩
  | _ :: _, _ :: _, h => ⟨h.1, TR.app hr h.2⟩
  | [], _ :: _, h => h.elim
  | _ :: _, [], h => h.elim
theorem TR.get {H : Hp} : ∀ {rs : List Addr} {xs : List (List Int)} {i : Nat} {r : Addr}, TR H rs xs → rs[i]? = some r → ∃ x, xs[i]? = some x ∧ H r = some (.tup (x.map V.int))
  | [], [], _, _, _, e => by simp at e
  | r :: rs, x :: xs, 0, _, h, e => by
    simp only [List.getElem?_cons_zero, Option.some.injEq] at e
    subst e
    exact ⟨x, rfl, h.1⟩
  | r :: rs, x :: xs, i + 1, _, h, e => by
    simp only [List.getElem?_cons_succ] at e ⊢
    exact TR.get h.2 e
  | [], _ :: _, _, _, h, _ => h.elim
  | _ :: _, [], _, _, h, _ => h.elim
/-- a list of tuples of whole numbers -/
def TL (H : Hp) (p : Addr) (xs : List (List Int)) : Prop := ∃ rs : List Addr, H p = some (.lst (rs.map V.ref)) ∧ TR H rs xs
theorem at_get {α : Type} {l : List α} {i : Nat} (h : i < l.length) : l[i]? = some l[i] := by simp [h]
section
variable {K : PySem.W.Frag} {σ : L2.St} {H : Hp} {Q : VK}
/-- [x[c] for x in list] of tuples of numbers -/
theorem rd_colT {L i n : Nat} {c : Int} {p : Addr} {xs : List (List Int)} (hi : i < σ.length) (hv : σ[L]? = some (some (.ref p))) (h : TL H p xs) (hx : ∀ x ∈ xs, x.length = n) (hc0 : 0 ≤ c) (hcn : c.toNat < n) (hz : xs.length ≤ sizeLine)
    (hd : ∀ D, H D = none → Q (.ref D) (upd H D (.lst ((xs.map fun x => x.getD c.toNat 0).map V.int)))) : tLc (iList K (tVar L)) (gName i) tYes (tOp (rIxT K) (tVar i) (tC (.int c))) [i] σ H Q := by
  obtain ⟨rs, hp, ht⟩ := h
  refine ⟨_, hv, p, rfl, ⟨_, SqL.of hp⟩, fun D hD => ?_⟩
  have sm : ∀ o, Same H (upd H D o) := fun o => same_upd hD
  refine lc_list (K := K) (xs := rs.map V.ref) (fun i H' => H' = upd H D (.lst (((xs.take i).map fun x => x.getD c.toNat 0).map V.int))) (by simp) (fun i H' _ e => SqL.of (by rw [e]; exact sm _ _ _ hp)) ?_ ?_
  · rintro j x H' hj rfl
    obtain ⟨r, hr, rfl⟩ : ∃ r, rs[j]? = some r ∧ x = .ref r := by
      rw [List.getElem?_map] at hj
      cases e : rs[j]? with
      | none => rw [e] at hj; cases hj
      | some r => rw [e] at hj; exact ⟨r, rfl, (Option.some.inj hj).symm⟩
    obtain ⟨x, hx1, hx2⟩ := ht.get hr
    have hl := hx x (List.mem_of_getElem? hx1)
    have hlt : c.toNat < x.length := by omega
    have hset : (((wipe σ [i]).set i (some (.ref r)))[i]? : Option (Option V)) = some (some (.ref r)) := by
      rw [List.getElem?_set_self (by rw [wipe_length]; exact hi)]
    refine ⟨by simp only [wipe, List.set_set], ?_⟩
    refine rd_yes (iteT' (rd_op (rd_var hset (rd_c ?_))))
    have e1 : atI (x.map V.int) c = some (V.int (x.getD c.toNat 0)) := by
      obtain ⟨m, rfl⟩ : ∃ m : Nat, c = m := ⟨c.toNat, by omega⟩
      refine atI_nat ?_
      rw [Int.toNat_natCast] at hlt ⊢
      rw [List.getElem?_map, at_get hlt]
      simp [List.getD, hlt]
    refine rd_ixT (SqT.of (sm _ _ _ hx2)) e1 ?_
    refine ⟨_, upd_same, ?_, ?_⟩
    · have hj2 : j < xs.length := (List.getElem?_eq_some_iff.mp hx1).1
      simp only [List.length_map, List.length_take]
      omega
    · rw [upd_upd]
      have : xs.take (j + 1) = xs.take j ++ [x] := by rw [List.take_succ, hx1]; rfl
      rw [this, List.map_append, List.map_append]; rfl
  · rintro H' rfl
    have e : xs.take (rs.map V.ref).length = xs := by rw [List.length_map, ht.len, List.take_length]
    rw [e]
    exact hd D hD
/-- min, max, of a list of numbers -/
theorem rd_min {p : Addr} {ns : List Int} (m0 : Int) (h : H p = some (.lst (ns.map V.int))) (hm : m0 ∈ ns) (hle : ∀ y ∈ ns, m0 ≤ y) (q : Q (.int m0) H) : rMin K [.ref p] H Q :=
  ⟨p, ns, rfl, SqL.of h, List.length_pos_of_mem hm, fun m h1 h2 => by
    have e : m = m0 := Int.le_antisymm (h2 m0 hm) (hle m h1)
    rw [e]; exact q⟩
theorem rd_max {p : Addr} {ns : List Int} (m0 : Int) (h : H p = some (.lst (ns.map V.int))) (hm : m0 ∈ ns) (hle : ∀ y ∈ ns, y ≤ m0) (q : Q (.int m0) H) : rMax K [.ref p] H Q :=
  ⟨p, ns, rfl, SqL.of h, List.length_pos_of_mem hm, fun m h1 h2 => by
    have e : m = m0 := Int.le_antisymm (hle m h1) (h2 m0 hm)
    rw [e]; exact q⟩
/-! lists of tuples, compared -/
theorem dp_tr : ∀ {rs : List Addr} {xs : List (List Int)}, TR H rs xs → DpAll K H (rs.map V.ref) (xs.map fun x => PyData.tuple (x.map PyData.int))
  | [], [], _ => .nil
  | r :: rs, x :: xs, h => .cons (.tup (SqT.of h.1) dp_ints) (dp_tr h.2)
  | [], _ :: _, h => h.elim
  | _ :: _, [], h => h.elim
theorem lay_ints : ∀ x : List Int, PyData.canLayAll0 (x.map PyData.int) = true
  | [] => by simp [PyData.canLayAll0]
  | i :: x => by simp [PyData.canLayAll0, PyData.canLay0, lay_ints x]
theorem depth_ints : ∀ x : List Int, PyData.depthAll (x.map PyData.int) ≤ 1
  | [] => by simp [PyData.depthAll]
  | i :: x => by simp [PyData.depthAll, PyData.depth, depth_ints x]
theorem lay_tr : ∀ xs : List (List Int), PyData.canLayAll0 (xs.map fun x => PyData.tuple (x.map PyData.int)) = true
  | [] => by simp [PyData.canLayAll0]
  | x :: xs => by simp [PyData.canLayAll0, PyData.canLay0, lay_tr xs, lay_ints x]
theorem depth_tr : ∀ xs : List (List Int), PyData.depthAll (xs.map fun x => PyData.tuple (x.map PyData.int)) ≤ 2
  | [] => by simp [PyData.depthAll]
  | x :: xs => by
    have h1 := depth_tr xs
    have h2 := depth_ints x
    simp only [List.map_cons, PyData.depthAll, PyData.depth]
    omega
theorem shaped_tr (xs : List (List Int)) : SeqAt.shaped (.list (xs.map fun x => PyData.tuple (x.map PyData.int))) = true := by
  have h1 := depth_tr xs
  have h2 := lay_tr xs
  have h3 : PyData.depth (.list (xs.map fun x => PyData.tuple (x.map PyData.int))) ≤ 64 := by
    simp only [PyData.depth]
    omega
  unfold SeqAt.shaped
  rw [decide_eq_true h3, Bool.and_true]
  simp only [PyData.canLay0, h2]
theorem TL.same {H H' : Hp} {p : Addr} {xs : List (List Int)} (h : TL H p xs) (s : Same H H') : TL H' p xs := by
  obtain ⟨rs, h1, h2⟩ := h
  exact ⟨rs, s _ _ h1, h2.keep fun _ _ e => s _ _ e⟩
/-- rows == [] -/
theorem rd_eqTL0 {p pe : Addr} {xs : List (List Int)} (h : TL H p xs) (he : H pe = some (.lst [])) (q : Q (.bl (decide (xs = []))) H) : rEqD K (.ref p) (.ref pe) H Q := by
  obtain ⟨rs, h1, h2⟩ := h
  refine ⟨_, _, .lst (SqL.of h1) (dp_tr h2), .lst (SqL.of he) .nil, shaped_tr xs, rfl, ?_⟩
  cases xs with
  | nil => exact q
  | cons x xs => exact q
/-- isinstance(tuple of the law's, tuple) -/
theorem rd_isiT {p : Addr} {xs : List V} (h : H p = some (.tup xs)) (q : Q (.bl true) H) : rIsi K [.ref p, .ty "tuple"] H Q :=
  isi_ty (.base (.tup h)) (by decide +kernel : kitB "tuple" "tuple" = some true) q
theorem rd_isiI {i : Int} (q : Q (.bl true) H) : rIsi K [.int i, .ty "int"] H Q := isi_ty (.base (.int i)) (by decide +kernel : kitB "int" "int" = some true) q
theorem rd_isiB {i : Int} (q : Q (.bl false) H) : rIsi K [.int i, .ty "bool"] H Q := isi_ty (.base (.int i)) (by decide +kernel : kitB "int" "bool" = some false) q
end
theorem sqL_on {K : PySem.W.Frag} {H H' : Hp} {a : Addr} {xs : List V} (h : SqL K H a xs) (e : ∀ o, H a = some o → H' a = some o) : SqL K H' a xs :=
  h.elim (fun h => .inl (h.elim (fun h => .inl (e _ h)) fun ⟨o, h⟩ => .inr ⟨o, e _ h⟩)) fun h => .inr h
theorem walk_r0 {n : Nat} : Walk (Itr 0 n) n (fun _ => True) (YFn fun i => .int (i : Int)) :=
  walk_range.mono (fun _ h => h) fun i H x H' _ _ y => ⟨y.1, y.2.trans (by show V.int (0 + (i : Int)) = V.int (i : Int); rw [Int.zero_add])⟩
def cutI (ns : List Int) (lo hi : Option Int) : List Int := (ns.drop (HT.sIx ns.length 0 lo)).take (HT.sIx ns.length ns.length hi - HT.sIx ns.length 0 lo)
theorem cutV_ints (ns : List Int) (lo hi : Option Int) : cutV (ns.map V.int) lo hi = (cutI ns lo hi).map V.int := by
  unfold cutV cutI
  rw [List.length_map, List.map_take, List.map_drop]
/-- Grove() -/
theorem rd_grove {K : PySem.W.Frag} {σ : L2.St} {H : Hp} {Q : VK} (h : ∀ (a : GA) H', GAt (CG K) H' a [] [] → (∀ b ∈ a.muts [], H b = none) → Same H H' → Q (.ref a.g) H') : tMake (CG K) (sp_ginit (CG K)) [] E0 tNil σ H Q := by
  intro x dx hx hdx hne
  refine ⟨x, dx, rfl, upd_same, fun a H' e G hn hk => ⟨rfl, ?_⟩⟩
  subst e
  have out : ∀ (b u : Addr) (Hx : Hp) (o : HO), upd Hx u o b = none → Hx b = none := fun b u Hx o e => by
    by_cases z : b = u
    · subst z; rw [upd_same] at e; cases e
    · rw [upd_ne z] at e; exact e
  refine h a H' G (fun b hb => out _ _ _ _ (out _ _ _ _ (hn b hb))) fun b o e => ?_
  have b1 : b ≠ a.g := ne_of_none e hx
  have b2 : b ≠ dx := ne_of_none e hdx
  exact hk b o (by rw [upd_ne b1, upd_ne b2]; exact e) b1
/-! #### the asker's own lists beside a grove -/
/-- tuples stay -/
def Tup (H H' : Hp) : Prop := ∀ b ys, H b = some (.tup ys) → H' b = some (.tup ys)
theorem Tup.refl (H : Hp) : Tup H H := fun _ _ h => h
theorem Tup.trans {H H1 H2 : Hp} (x : Tup H H1) (y : Tup H1 H2) : Tup H H2 := fun b ys h => y b ys (x b ys h)
theorem Tup.of {H H' : Hp} (x : Same H H') : Tup H H' := fun b ys h => x b _ h
theorem Tup.put {H : Hp} {p : Addr} {xs : List V} (h : H p = some (.lst xs)) (o : HO) : Tup H (upd H p o) := fun b ys e => by
  rw [upd_ne (by rintro rfl; rw [h] at e; cases e)]; exact e
theorem GStep.tup {C : Addr} {H H1 : Hp} {a : GA} {rows r1 : List (Int × Addr)} {q q1 : List Sq} (x : GStep C H a rows q H1 r1 q1) (G : GAt C H a rows q) : Tup H H1 := fun b ys e => x.fr b _ e (G.tup_out e)
/-- own lists, by their addresses -/
structure OwnL (a : GA) (rows : List (Int × Addr)) (H : Hp) (l : List (Addr × List V)) : Prop where
  nd : (l.map (·.1)).Nodup
  at_ : ∀ p xs, (p, xs) ∈ l → H p = some (.lst xs)
  out : ∀ p xs, (p, xs) ∈ l → p ∉ a.muts rows
theorem OwnL.same {a : GA} {rows : List (Int × Addr)} {H H' : Hp} {l : List (Addr × List V)} (h : OwnL a rows H l) (s : Same H H') : OwnL a rows H' l := ⟨h.nd, fun p xs m => s _ _ (h.at_ p xs m), h.out⟩
theorem OwnL.step {C : Addr} {H H1 : Hp} {a : GA} {rows r1 : List (Int × Addr)} {q q1 : List Sq} {l : List (Addr × List V)} (h : OwnL a rows H l) (x : GStep C H a rows q H1 r1 q1) : OwnL a r1 H1 l :=
  ⟨h.nd, fun p xs m => (x.own (h.at_ p xs m) (h.out p xs m)).1, fun p xs m => (x.own (h.at_ p xs m) (h.out p xs m)).2⟩
theorem OwnL.nil {a : GA} {rows : List (Int × Addr)} {H : Hp} : OwnL a rows H [] := ⟨by simp, fun _ _ m => by simp at m, fun _ _ m => by simp at m⟩
theorem OwnL.new {C : Addr} {a : GA} {rows : List (Int × Addr)} {q : List Sq} {H : Hp} {l : List (Addr × List V)} {p : Addr} {xs : List V} (h : OwnL a rows H l) (G : GAt C H a rows q) (hp : H p = none) : OwnL a rows (upd H p (.lst xs)) ((p, xs) :: l) := by
  refine ⟨?_, fun p' ys m => ?_, fun p' ys m => ?_⟩
  · rw [List.map_cons, List.nodup_cons]
    refine ⟨fun z => ?_, h.nd⟩
    obtain ⟨⟨p', ys⟩, m, e⟩ := List.mem_map.mp z
    have e' : p' = p := e
    subst e'
    rw [h.at_ _ _ m] at hp
    cases hp
  · rcases List.mem_cons.mp m with m | m
    · cases m; exact upd_same
    · exact same_upd hp _ _ (h.at_ _ _ m)
  · rcases List.mem_cons.mp m with m | m
    · cases m; exact G.new_out hp
    · exact h.out _ _ m
theorem OwnL.put {a : GA} {rows : List (Int × Addr)} {H : Hp} {p : Addr} {xs : List V} (l1 l2 : List (Addr × List V)) (ys : List V) (h : OwnL a rows H (l1 ++ (p, xs) :: l2)) : OwnL a rows (upd H p (.lst ys)) (l1 ++ (p, ys) :: l2) := by
  have nd := h.nd
  rw [List.map_append, List.map_cons] at nd
  have ne : ∀ p' zs, (p', zs) ∈ l1 ∨ (p', zs) ∈ l2 → p' ≠ p := fun p' zs m e => by
    subst e
    rw [List.nodup_append, List.nodup_cons] at nd
    rcases m with m | m
    · exact nd.2.2 p' (List.mem_map_of_mem (f := fun x : Addr × List V => x.1) (a := (p', zs)) m) p' List.mem_cons_self rfl
    · exact nd.2.1.1 (List.mem_map_of_mem (f := fun x : Addr × List V => x.1) (a := (p', zs)) m)
  refine ⟨by rw [List.map_append, List.map_cons]; exact nd, fun p' zs m => ?_, fun p' zs m => ?_⟩
  · rcases List.mem_append.mp m with m | m
    · rw [upd_ne (ne p' zs (.inl m))]; exact h.at_ _ _ (List.mem_append_left _ m)
    · rcases List.mem_cons.mp m with m | m
      · cases m; exact upd_same
      · rw [upd_ne (ne p' zs (.inr m))]; exact h.at_ _ _ (List.mem_append_right _ (List.mem_cons_of_mem _ m))
  · rcases List.mem_append.mp m with m | m
    · exact h.out _ _ (List.mem_append_left _ m)
    · rcases List.mem_cons.mp m with m | m
      · cases m; exact h.out _ xs (List.mem_append_right _ List.mem_cons_self)
      · exact h.out _ _ (List.mem_append_right _ (List.mem_cons_of_mem _ m))
theorem GAt.own {C : Addr} {H : Hp} {a : GA} {rows : List (Int × Addr)} {q : List Sq} {l : List (Addr × List V)} {p : Addr} {xs : List V} {o : HO} (G : GAt C H a rows q) (h : OwnL a rows H l) (m : (p, xs) ∈ l) : GAt C (L2.upd H p o) a rows q :=
  G.upd (fun u e => by rw [h.at_ _ _ m] at e; cases e; exact fun z => z) (h.out _ _ m)
theorem OwnL.ix {a : GA} {rows : List (Int × Addr)} {H : Hp} {l : List (Addr × List V)} {p : Addr} {xs : List V} (h : OwnL a rows H l) (i : Nat) (e : l[i]? = some (p, xs)) : H p = some (.lst xs) := h.at_ p xs (List.mem_of_getElem? e)
theorem GAt.ownI {C : Addr} {H : Hp} {a : GA} {rows : List (Int × Addr)} {q : List Sq} {l : List (Addr × List V)} {p : Addr} {xs : List V} (G : GAt C H a rows q) (h : OwnL a rows H l) (i : Nat) (e : l[i]? = some (p, xs)) (o : HO) : GAt C (L2.upd H p o) a rows q := G.own h (List.mem_of_getElem? e)
theorem OwnL.putI {a : GA} {rows : List (Int × Addr)} {H : Hp} {l : List (Addr × List V)} {p : Addr} {xs : List V} (h : OwnL a rows H l) (i : Nat) (e : l[i]? = some (p, xs)) (ys : List V) : OwnL a rows (upd H p (.lst ys)) (l.set i (p, ys)) := by
  obtain ⟨hi, e'⟩ := List.getElem?_eq_some_iff.mp e
  have e1 : l = l.take i ++ (p, xs) :: l.drop (i + 1) := by rw [← e']; simp
  rw [List.set_eq_take_append_cons_drop, if_pos hi]
  rw [e1] at h
  exact h.put (l.take i) (l.drop (i + 1)) ys
theorem OwnL.tup {a : GA} {rows : List (Int × Addr)} {H : Hp} {l : List (Addr × List V)} {p : Addr} {xs : List V} (h : OwnL a rows H l) (i : Nat) (e : l[i]? = some (p, xs)) (o : HO) : Tup H (L2.upd H p o) := Tup.put (h.ix i e) o
section
variable {P : Program} {w : World} {K : PySem.W.Frag} {mg : Str → Option Value} {base : Heap}
def atN (ns : List Int) (k : Nat) : Int := (ns[k]?).getD 0
def sp_at (K : PySem.W.Frag) : Sp := fun vs H Q _ => ∃ (a : Addr) (ns : List Int) (k : Int), vs = [.ref a, .int k] ∧ SqL K H a (ns.map V.int) ∧ 0 ≤ k ∧ Q (.int (atN ns k.toNat)) H
theorem mp_at : MonP (sp_at K) := fun vs H Q Q' E h ⟨a, ns, k, x1, x2, x3, q⟩ => ⟨a, ns, k, x1, x2, x3, h _ _ q⟩
theorem ok_at (T : Env fa fn K mg) : Good P w K mg base CX0 1 ("_law_at", none) ["_law_script", "_law_k"] (sp_at K) := by
  refine good_mk T 35 (d := d_w_at) (N := ["_law_script", "_law_k"]) (ps := ["_law_script", "_law_k"]) rfl rfl sc_w_at (fun _ _ _ _ _ _ us hl => match us, hl with | [_, _], _ => rfl) (fun vs H Q E h => ?_) (fun f cdv A outer s H vs Q E hr h => ?_)
  · obtain ⟨a, ns, k, rfl, _⟩ := h; rfl
  · obtain ⟨a, ns, k, rfl, hs, h0, q⟩ := h
    refine ⟨_, (pss_cons (ps_if (pt_cmpR op_lt (pv 1) (pe_callB (call_lenK K rfl) (by rfl) (T.free 4) (by decide +kernel) (pa_cons (pv 0) pa_nil)) (nomark _)) (pss_one (ps_ret (pe_ix (ix_listK K rfl) (pv 0) (pv 1) (fun _ _ => rfl)))) pss_nil)
      (pss_one (ps_ret pe_int))), ?_⟩
    obtain ⟨m, rfl⟩ : ∃ m : Nat, k = m := ⟨k.toNat, by omega⟩
    rw [Int.toNat_natCast] at q
    walk_at "rd"
    refine rd_len hs ?_
    walk_at "rd"
    rw [List.length_map]
    refine ite_d (fun hk => ?_) (fun hk => ?_)
    · walk_at "rd"
      have hlt : m < ns.length := by omega
      refine rd_ixL hs (v := .int (atN ns m)) (atI_nat ?_) q
      rw [List.getElem?_map, at_get hlt]
      simp [atN, hlt]
    · walk_at "rd"
      have e : atN ns m = 0 := by unfold atN; rw [List.getElem?_eq_none (by omega)]; rfl
      rw [e] at q
      exact q
end
end JF

/-! ### helpers of the laws: dicts by tuples, zips of tuples -/
namespace JF
open PySem PySem.Spec PyProof.Rows L2
section
variable {X : Cx}
/-- d.setdefault(tuple, x), the dict by tuples -/
def rSetdT : V → List V → Hp → VK → Prop := fun u us H Q => ∃ (d t : Addr) (k : List Key) (z : V) (tab : List (List Key × V)), u = .ref d ∧ us = [.ref t, z] ∧ H d = some (.dT tab) ∧ H t = some (.tup (k.map kV)) ∧ tab.length < sizeLine ∧
  (∀ v, valV tab k = some v → Q v H) ∧ (valV tab k = none → Q z (upd H d (.dT (putK tab k z))))
theorem mt_setdT (room : X.A.units + 64 < cLine) : MtR X "dict.setdefault" rSetdT := by
  intro pins s σ H u us uv uvs Q I ru rus h
  obtain ⟨d, t, k, z, tab, rfl, rfl, hd, ht, hlt, there, away⟩ := h
  cases ru
  obtain ⟨kv, zv, rfl, rk, rz⟩ := vals2 rus
  cases rk
  obtain ⟨hle, hsys, ys, tie, dict⟩ := dt_of I.hok hd
  have hys : ys.length ≤ sizeLine := Paired.length tie ▸ hle
  have look := tie.val k
  refine call_setdefault_heap (knd := tupleKind (mixKind X.prog X.w)) (k := k) (tupleKind_room_in1 (by omega)) (key_of I.hok ht) hsys dict ?got ?new hys
  case got =>
    intro p hp
    rw [hp] at look
    cases ev : valV tab k with
    | none => rw [ev] at look; exact False.elim look
    | some v =>
      rw [ev] at look
      exact ⟨v, H, I.tok _, look, there v ev⟩
  case new =>
    intro hn h2 dict2 but
    have ev : valV tab k = none := by
      cases ev : valV tab k with
      | none => rfl
      | some v => rw [hn, ev] at look; exact False.elim look
    obtain ⟨o, es, ep, ho, m1, m2, m3, _, m4⟩ := dict2
    have tie2 : KT (upd H d (.dT (putK tab k z))) (putK tab k z) (storedH ys k t zv) := (tie.put k ht rz).keeps fun b items e => by
      rw [upd_ne (ne_of e hd (fun x => nomatch x))]
      exact e
    have hle2 : (putK tab k z).length ≤ sizeLine := by
      rw [putK_new _ ev, List.length_append]
      exact hlt
    have I2 := d_write (t' := s.toks + (tupleKind (mixKind X.prog X.w)).draws k) I (by rw [hd]; exact True.intro) but ⟨o, ho⟩ (ob := .dT (putK tab k z)) ⟨hle2, hsys, _, tie2, o, es, ep, ho, m1, m2, m3, m4⟩
    exact ⟨z, _, I2, rz, away ev⟩
end
section
variable {X : Cx} {p pos tpos : Pos} {e e2 : Expr} {ta : TA} {elts : List Expr} {kk : Nat}
theorem pi_zipAK (K : PySem.W.Frag) (hK : X.K = K) (hg : Gl X "zip") (hm : X.mg "zip" = none) (ha : PA X [e, e2] ta) (hs : starEach [e, e2] X.env = (false, eval e X.env) :: starEach [e2] X.env := by rfl) (hpl : (backTo pos (starEach [e2] X.env)).any (·.1) = false := by rfl) :
    PI X (.Tuple elts kk tpos) (.Call (.Name "zip" p) [e, e2] [] pos) (RZ.iZipA K ta) := by subst hK; exact RZ.pi_zipA hg hm ha hs hpl
end
section
variable {K : PySem.W.Frag} {σ : L2.St} {H : Hp} {Q : VK}
theorem rd_iZA {tr : TA} {R : It → Hp → Prop} (h : tr σ H fun vs H1 => ∃ a b xs ys, vs = [.ref a, .ref b] ∧ ((SqL K H1 a xs ∧ SqL K H1 b ys ∧ R (Itz K a b) H1) ∨ (SqT K H1 a xs ∧ SqT K H1 b ys ∧ R (RZ.ItzT K a b) H1))) : RZ.iZipA K tr σ H R := h
theorem rd_tyD {l : Addr} {xs : List (Key × V)} {R : Prop} (h1 : H l = some (.dK xs)) (q : R) : tyV K "dict" (.ref l) H ∧ R := ⟨Or.inr (Or.inr (Or.inl ⟨rfl, Or.inl ⟨_, h1⟩⟩)), q⟩
theorem rd_tyDT {l : Addr} {xs : List (List Key × V)} {R : Prop} (h1 : H l = some (.dT xs)) (q : R) : tyV K "dict" (.ref l) H ∧ R := ⟨Or.inr (Or.inr (Or.inl ⟨rfl, Or.inr ⟨_, h1⟩⟩)), q⟩
theorem rd_iK {td : TE} {R : It → Hp → Prop} (h : td σ H fun x H1 => ∃ d o, x = .ref d ∧ ((∃ kvs, H1 d = some (.frz o (.dK kvs)) ∧ R (Itk d o kvs) H1) ∨ ∃ kvs, H1 d = some (.frz o (.dT kvs)) ∧ R (Itkt d o kvs) H1)) : iKeys td σ H R := h
theorem shaped_tup {ns : List Int} : SeqAt.shaped (.tuple (ns.map PyData.int)) = true := by
  have h1 := depth_ints ns
  have h2 := lay_ints ns
  have h3 : PyData.depth (.tuple (ns.map PyData.int)) ≤ 64 := by
    simp only [PyData.depth]
    omega
  unfold SeqAt.shaped
  rw [decide_eq_true h3, Bool.and_true]
  simp only [PyData.canLay0, h2]
theorem rd_neDT {p p' : Addr} {ns ms : List Int} (h1 : H p = some (.tup (ns.map V.int))) (h2 : H p' = some (.tup (ms.map V.int)))
    (q : Q (.bl (!PyData.eqv (.tuple (ns.map PyData.int)) (.tuple (ms.map PyData.int)))) H) : rNeD K (.ref p) (.ref p') H Q := ⟨_, _, .tup (SqT.of h1) dp_ints, .tup (SqT.of h2) dp_ints, shaped_tup, shaped_tup, q⟩
theorem eqvT_refl (ns : List Int) : PyData.eqv (.tuple (ns.map PyData.int)) (.tuple (ns.map PyData.int)) = true := SeqAt.eqv_refl _ (by simp only [PyData.canLay0]; exact lay_ints ns)
end
theorem eqvAll_ints : ∀ ns ms : List Int, PyData.eqvAll (ns.map PyData.int) (ms.map PyData.int) = decide (ns = ms)
  | [], [] => by simp [PyData.eqvAll]
  | [], _ :: _ => by simp [PyData.eqvAll]
  | _ :: _, [] => by simp [PyData.eqvAll]
  | n :: ns, m :: ms => by
    simp only [List.map_cons, PyData.eqvAll, PyData.eqv, eqvAll_ints ns ms, List.cons.injEq]
    by_cases a : n = m <;> by_cases b : ns = ms <;> simp [a, b]
theorem shaped_list {ns : List Int} : SeqAt.shaped (.list (ns.map PyData.int)) = true := by
  have h1 := depth_ints ns
  have h2 := lay_ints ns
  have h3 : PyData.depth (.list (ns.map PyData.int)) ≤ 64 := by
    simp only [PyData.depth]
    omega
  unfold SeqAt.shaped
  rw [decide_eq_true h3, Bool.and_true]
  simp only [PyData.canLay0, h2]
/-- lists, tuples of whole numbers, compared -/
theorem rd_eqLI {K : PySem.W.Frag} {H : Hp} {Q : VK} {p p' : Addr} {ns ms : List Int} (h1 : SqL K H p (ns.map V.int)) (h2 : SqL K H p' (ms.map V.int)) (q : Q (.bl (decide (ns = ms))) H) : rEqD K (.ref p) (.ref p') H Q :=
  rd_eqDI h1 h2 shaped_list shaped_list (by
    have e : PyData.eqv (.list (ns.map PyData.int)) (.list (ms.map PyData.int)) = decide (ns = ms) := by rw [← eqvAll_ints]; simp only [PyData.eqv]
    rw [e]; exact q)
theorem rd_neLI {K : PySem.W.Frag} {H : Hp} {Q : VK} {p p' : Addr} {ns ms : List Int} (h1 : SqL K H p (ns.map V.int)) (h2 : SqL K H p' (ms.map V.int)) (q : Q (.bl (!decide (ns = ms))) H) : rNeD K (.ref p) (.ref p') H Q :=
  rd_neDI h1 h2 shaped_list shaped_list (by
    have e : PyData.eqv (.list (ns.map PyData.int)) (.list (ms.map PyData.int)) = decide (ns = ms) := by rw [← eqvAll_ints]; simp only [PyData.eqv]
    rw [e]; exact q)
theorem rd_neTI {K : PySem.W.Frag} {H : Hp} {Q : VK} {p p' : Addr} {ns ms : List Int} (h1 : H p = some (.tup (ns.map V.int))) (h2 : H p' = some (.tup (ms.map V.int))) (q : Q (.bl (!decide (ns = ms))) H) : rNeD K (.ref p) (.ref p') H Q :=
  rd_neDT h1 h2 (by
    have e : PyData.eqv (.tuple (ns.map PyData.int)) (.tuple (ms.map PyData.int)) = decide (ns = ms) := by rw [← eqvAll_ints]; simp only [PyData.eqv]
    rw [e]; exact q)
theorem mm_setdT : MonM rSetdT := fun x y H Q Q' h ⟨d, t, k, z, tab, e1, e2, e3, e4, e5, q1, q2⟩ => ⟨d, t, k, z, tab, e1, e2, e3, e4, e5, fun v hv => h _ _ (q1 v hv), fun hv => h _ _ (q2 hv)⟩
theorem mr_neD {K : PySem.W.Frag} : MonR (rNeD K) := fun x y H Q Q' h ⟨a, b, e1, e2, e3, e4, q⟩ => ⟨a, b, e1, e2, e3, e4, h _ _ q⟩
theorem mr_eqD {K : PySem.W.Frag} : MonR (rEqD K) := fun x y H Q Q' h ⟨a, b, e1, e2, e3, e4, q⟩ => ⟨a, b, e1, e2, e3, e4, h _ _ q⟩
/-! own objects beside a grove: lists, dicts -/
structure OwnO (a : GA) (rows : List (Int × Addr)) (H : Hp) (l : List (Addr × HO)) : Prop where
  nd : (l.map (·.1)).Nodup
  at_ : ∀ p o, (p, o) ∈ l → H p = some o
  mv : ∀ p o, (p, o) ∈ l → ¬ HO.still o
  out : ∀ p o, (p, o) ∈ l → p ∉ a.muts rows
theorem OwnO.same {a : GA} {rows : List (Int × Addr)} {H H' : Hp} {l : List (Addr × HO)} (h : OwnO a rows H l) (s : Same H H') : OwnO a rows H' l := ⟨h.nd, fun p xs m => s _ _ (h.at_ p xs m), h.mv, h.out⟩
theorem OwnO.step {C : Addr} {H H1 : Hp} {a : GA} {rows r1 : List (Int × Addr)} {q q1 : List Sq} {l : List (Addr × HO)} (h : OwnO a rows H l) (x : GStep C H a rows q H1 r1 q1) : OwnO a r1 H1 l :=
  ⟨h.nd, fun p xs m => (x.own (h.at_ p xs m) (h.out p xs m)).1, h.mv, fun p xs m => (x.own (h.at_ p xs m) (h.out p xs m)).2⟩
theorem OwnO.nil {a : GA} {rows : List (Int × Addr)} {H : Hp} : OwnO a rows H [] := ⟨by simp, fun _ _ m => by simp at m, fun _ _ m => by simp at m, fun _ _ m => by simp at m⟩
theorem OwnO.new {C : Addr} {a : GA} {rows : List (Int × Addr)} {q : List Sq} {H : Hp} {l : List (Addr × HO)} {p : Addr} {o : HO} (h : OwnO a rows H l) (G : GAt C H a rows q) (hp : H p = none) (ho : ¬ HO.still o) : OwnO a rows (upd H p o) ((p, o) :: l) := by
  refine ⟨?_, fun p' ys m => ?_, fun p' ys m => ?_, fun p' ys m => ?_⟩
  · rw [List.map_cons, List.nodup_cons]
    refine ⟨fun z => ?_, h.nd⟩
    obtain ⟨⟨p', ys⟩, m, e⟩ := List.mem_map.mp z
    have e' : p' = p := e
    subst e'
    rw [h.at_ _ _ m] at hp
    cases hp
  · rcases List.mem_cons.mp m with m | m
    · cases m; exact upd_same
    · exact same_upd hp _ _ (h.at_ _ _ m)
  · rcases List.mem_cons.mp m with m | m
    · cases m; exact ho
    · exact h.mv _ _ m
  · rcases List.mem_cons.mp m with m | m
    · cases m; exact G.new_out hp
    · exact h.out _ _ m
theorem OwnO.ix {a : GA} {rows : List (Int × Addr)} {H : Hp} {l : List (Addr × HO)} {p : Addr} {o : HO} (h : OwnO a rows H l) (i : Nat) (e : l[i]? = some (p, o)) : H p = some o := h.at_ p o (List.mem_of_getElem? e)
theorem mem_set {α : Type} {l : List α} {i : Nat} {y x : α} (h : x ∈ l.set i y) : x = y ∨ ∃ j, j ≠ i ∧ l[j]? = some x := by
  obtain ⟨j, hj, e⟩ := List.mem_iff_getElem.mp h
  by_cases z : i = j
  · subst z; left; rw [← e, List.getElem_set_self]
  · right
    refine ⟨j, Ne.symm z, ?_⟩
    rw [List.getElem_set_ne z] at e
    rw [List.length_set] at hj
    rw [at_get hj, e]
theorem OwnO.ne {a : GA} {rows : List (Int × Addr)} {H : Hp} {l : List (Addr × HO)} (h : OwnO a rows H l) {i j : Nat} {p p' : Addr} {o o' : HO} (e : l[i]? = some (p, o)) (e' : l[j]? = some (p', o')) (n : j ≠ i) : p' ≠ p := fun z => by
  obtain ⟨hi, ei⟩ := List.getElem?_eq_some_iff.mp e
  obtain ⟨hj, ej⟩ := List.getElem?_eq_some_iff.mp e'
  exact n ((List.getElem_inj (xs := l.map (·.1)) (h₀ := by simpa using hj) (h₁ := by simpa using hi) h.nd).mp (by simp [ei, ej, z]))
theorem OwnO.put {a : GA} {rows : List (Int × Addr)} {H : Hp} {l : List (Addr × HO)} {p : Addr} {o : HO} (h : OwnO a rows H l) (i : Nat) (e : l[i]? = some (p, o)) (o' : HO) (ho : ¬ HO.still o') : OwnO a rows (upd H p o') (l.set i (p, o')) := by
  have nd' : ((l.set i (p, o')).map (·.1)) = l.map (·.1) := by
    rw [List.map_set]
    obtain ⟨hi, ei⟩ := List.getElem?_eq_some_iff.mp e
    refine List.ext_getElem (by simp) fun j h1 h2 => ?_
    by_cases z : i = j
    · subst z; simp [ei]
    · rw [List.getElem_set_ne z]
  have cases_ : ∀ p' u, (p', u) ∈ l.set i (p, o') → (p' = p ∧ u = o') ∨ (p' ≠ p ∧ (p', u) ∈ l) := fun p' u m => by
    rcases mem_set m with m | ⟨j, hj, m⟩
    · cases m; exact .inl ⟨rfl, rfl⟩
    · exact .inr ⟨h.ne e m hj, List.mem_of_getElem? m⟩
  refine ⟨by rw [nd']; exact h.nd, fun p' u m => ?_, fun p' u m => ?_, fun p' u m => ?_⟩
  · rcases cases_ p' u m with ⟨rfl, rfl⟩ | ⟨n, m⟩
    · exact upd_same
    · rw [upd_ne n]; exact h.at_ _ _ m
  · rcases cases_ p' u m with ⟨rfl, rfl⟩ | ⟨n, m⟩
    · exact ho
    · exact h.mv _ _ m
  · rcases cases_ p' u m with ⟨rfl, rfl⟩ | ⟨n, m⟩
    · exact h.out _ o (List.mem_of_getElem? e)
    · exact h.out _ _ m
theorem GAt.ownO {C : Addr} {H : Hp} {a : GA} {rows : List (Int × Addr)} {q : List Sq} {l : List (Addr × HO)} {p : Addr} {o : HO} (G : GAt C H a rows q) (h : OwnO a rows H l) (i : Nat) (e : l[i]? = some (p, o)) (o' : HO) : GAt C (L2.upd H p o') a rows q :=
  G.upd (fun u e' => by rw [h.ix i e] at e'; cases e'; exact h.mv _ _ (List.mem_of_getElem? e)) (h.out _ _ (List.mem_of_getElem? e))
theorem OwnO.tup {a : GA} {rows : List (Int × Addr)} {H : Hp} {l : List (Addr × HO)} {p : Addr} {o : HO} (h : OwnO a rows H l) (i : Nat) (e : l[i]? = some (p, o)) (o' : HO) : Tup H (L2.upd H p o') := fun b ys e' => by
  rw [upd_ne (by rintro rfl; rw [h.ix i e] at e'; cases e'; exact h.mv _ _ (List.mem_of_getElem? e) trivial)]; exact e'
/-! the law's promise -/
def sp_law (K : PySem.W.Frag) : Sp := fun vs H Q _ => ∃ (a : Addr) (ns : List Int), vs = [.ref a] ∧ SqL K H a (ns.map V.int) ∧ ns.length ≤ 63 ∧ Only H ∧ ∀ H', Q (.bl true) H'
theorem sp_law_in {K : PySem.W.Frag} (H : Hp) (a : Addr) (ns : List Int) (hl : ns.length ≤ 63) (hO : Only H) (hS : SqL K H a (ns.map V.int)) : sp_law K [.ref a] H (fun v _ => v = .bl true) (fun _ _ _ => False) := ⟨a, ns, rfl, hS, hl, hO, fun _ => rfl⟩
theorem shl_ok {i : Nat} : (1 : Int) * 2 ^ ((i : Int)).toNat = 2 ^ i := by rw [Int.one_mul, Int.toNat_natCast]
/-! solid squares: what lives, the span -/
theorem even_none : ∀ l : Nat, (Sq.even l 0).lives = 0 ∧ (Sq.even l 0).span = none
  | 0 => ⟨rfl, rfl⟩
  | l + 1 => by
    obtain ⟨h1, h2⟩ := even_none l
    refine ⟨?_, ?_⟩
    · show (Sq.even l 0).lives + (Sq.even l 0).lives + (Sq.even l 0).lives + (Sq.even l 0).lives = 0
      rw [h1]; rfl
    · show r4 _ (Sq.even l 0).span (Sq.even l 0).span (Sq.even l 0).span (Sq.even l 0).span = none
      rw [h2]; rfl
theorem even_some {s : Int} (hs : s ≠ 0) : ∀ l : Nat, (Sq.even l s).lives = 2 ^ l * 2 ^ l ∧ (Sq.even l s).span = some (0, 0, 2 ^ l, 2 ^ l)
  | 0 => by simp [Sq.even, Sq.lives, Sq.span, hs]
  | l + 1 => by
    obtain ⟨h1, h2⟩ := even_some hs l
    have e : (2 : Int) ^ (l + 1) = 2 * 2 ^ l := by rw [Int.pow_succ]; omega
    have h0 : (0 : Int) < 2 ^ l := Int.pow_pos (by decide)
    refine ⟨?_, ?_⟩
    · show (Sq.even l s).lives + (Sq.even l s).lives + (Sq.even l s).lives + (Sq.even l s).lives = _
      rw [h1, e]
      generalize (2 : Int) ^ l = h
      have e2 : 2 * h * (2 * h) = 4 * (h * h) := by rw [Int.mul_assoc, Int.mul_left_comm h 2 h, ← Int.mul_assoc]; rfl
      rw [e2]; omega
    · show r4 (2 ^ (Sq.even l s).level) (Sq.even l s).span (Sq.even l s).span (Sq.even l s).span (Sq.even l s).span = _
      rw [h2, Sq.level_even, e]
      generalize (2 : Int) ^ l = h at h0
      simp only [r4, r4step, rb, Option.some.injEq, Prod.mk.injEq]
      refine ⟨?_, ?_, ?_, ?_⟩ <;> omega
theorem even_inj {s s' : Int} : ∀ {l l' : Nat}, Sq.even l s = Sq.even l' s' → l = l' ∧ s = s'
  | 0, 0, h => by cases h; exact ⟨rfl, rfl⟩
  | 0, _ + 1, h => by cases h
  | _ + 1, 0, h => by cases h
  | l + 1, l' + 1, h => by
    injection h with h1
    obtain ⟨a, b⟩ := even_inj h1
    exact ⟨by rw [a], b⟩
theorem pow64 {i : Nat} (h : i ≤ 60) : (0 : Int) < 2 ^ i ∧ (2 : Int) ^ i < 2 ^ 64 := by
  refine ⟨Int.pow_pos (by decide), ?_⟩
  have e2 : 2 ^ i < 2 ^ 64 := Nat.pow_lt_pow_right (by decide) (by omega)
  exact_mod_cast e2
theorem sq_ok {i : Nat} (h : i ≤ 60) : CMulW ((2 : Int) ^ i) (2 ^ i) := by
  obtain ⟨h1, h2⟩ := pow64 h
  have e1 : (2 : Int) ^ 64 ≤ 2 ^ 2000 := by decide +kernel
  exact mulW_of (by omega) (by omega) (by omega) (by omega)
section
variable {P : Program} {w : World} {K : PySem.W.Frag} {mg : Str → Option Value} {base : Heap}
def sp_same : Sp := fun vs H Q _ => ∃ i d : Int, vs = [.int i, .int d] ∧ Q (.bl (decide (i = d))) H
theorem mp_same : MonP sp_same := fun vs H Q Q' E h ⟨i, d, x1, q⟩ => ⟨i, d, x1, h _ _ q⟩
theorem sp_sameT {i : Int} {H : Hp} {Q : VK} {E : XK} (q : Q (.bl true) H) : sp_same [.int i, .int i] H Q E := ⟨i, i, rfl, by rw [decide_eq_true rfl]; exact q⟩
end
end JF

/-! ### helpers of the laws: the script beside a grove -/
namespace JF
open PySem PySem.Spec PyProof.Rows L2
/-- the script stays as it was, and is none of the grove's own -/
def Scr (H0 : Hp) (a0 : Addr) (a : GA) (rows : List (Int × Addr)) (H : Hp) : Prop := ∀ o, H0 a0 = some o → H a0 = some o ∧ a0 ∉ a.muts rows
theorem Scr.new {H0 H1 : Hp} {a0 : Addr} {a : GA} (hnew : ∀ b ∈ a.muts [], H0 b = none) (sm : Same H0 H1) : Scr H0 a0 a [] H1 := fun o e => ⟨sm _ _ e, fun z => by
  have y := hnew _ z
  rw [e] at y
  cases y⟩
theorem Scr.same {H0 H H' : Hp} {a0 : Addr} {a : GA} {rows : List (Int × Addr)} (h : Scr H0 a0 a rows H) (s : Same H H') : Scr H0 a0 a rows H' := fun o e => ⟨s _ _ (h o e).1, (h o e).2⟩
theorem Scr.step {C : Addr} {H0 H H1 : Hp} {a0 : Addr} {a : GA} {rows r1 : List (Int × Addr)} {q q1 : List Sq} (h : Scr H0 a0 a rows H) (x : GStep C H a rows q H1 r1 q1) : Scr H0 a0 a r1 H1 := fun o e => x.own (h o e).1 (h o e).2
theorem Scr.put {H0 H : Hp} {a0 p : Addr} {a : GA} {rows : List (Int × Addr)} {xs : List V} {o' : HO} (h : Scr H0 a0 a rows H) (hO : Only H0) (hp : H p = some (.lst xs)) : Scr H0 a0 a rows (upd H p o') := fun o e => by
  refine ⟨?_, (h o e).2⟩
  rw [upd_ne]
  · exact (h o e).1
  · rintro rfl
    rw [(h o e).1] at hp
    cases hp
    rcases hO a0 with z | ⟨u, ys, z⟩
    · rw [z] at e; cases e
    · rw [z] at e; cases e
theorem Scr.sq {K : PySem.W.Frag} {H0 H : Hp} {a0 : Addr} {a : GA} {rows : List (Int × Addr)} {xs : List V} (h : Scr H0 a0 a rows H) (hS : SqL K H0 a0 xs) : SqL K H a0 xs := sqL_on hS fun o e => (h o e).1
/-- the number read at a place -/
theorem rd_at {K : PySem.W.Frag} {H : Hp} {Q : VK} {E : XK} {a0 : Addr} {ns : List Int} {k : Int} (hs : SqL K H a0 (ns.map V.int)) (h0 : 0 ≤ k) (q : Q (.int (atN ns k.toNat)) H) : sp_at K [.ref a0, .int k] H Q E := ⟨a0, ns, k, rfl, hs, h0, q⟩
theorem nat_of {z : Int} (h : 0 ≤ z) : ∃ n : Nat, z = (n : Int) := ⟨z.toNat, by omega⟩
/-- range(i, j, c), small and upwards -/
theorem rgc_up {i j c : Int} (h1 : 0 ≤ i) (h2 : i ≤ 1000) (h3 : 0 ≤ j) (h4 : j ≤ 1000) (h5 : 1 ≤ c) (h6 : c ≤ 1000) : ∃ n : Nat, RgC i j c n ∧ ∀ k : Nat, k < n → i + (k : Int) * c < j := by
  have hq : 0 ≤ (j - i + c - 1) / c ∨ j ≤ i := by
    rcases Int.lt_or_le i j with h | h
    · left; exact Int.ediv_nonneg (by omega) (by omega)
    · exact .inr h
  have hle : (j - i + c - 1) / c ≤ 3000 := by
    rcases Int.lt_or_le (j - i + c - 1) 0 with h | h
    · have := Int.ediv_neg_of_neg_of_pos h (by omega : 0 < c); omega
    · exact Int.le_trans (Int.ediv_le_self _ h) (by omega)
  have es : Builtin.Range.rangeSize i j c = if i < j then (j - i - 1) / c + 1 else 0 := by
    unfold Builtin.Range.rangeSize
    rw [if_pos (by omega : c > 0)]
  have hdn : i < j → 0 ≤ (j - i - 1) / c := fun h => Int.ediv_nonneg (by omega) (by omega)
  have hdl : i < j → (j - i - 1) / c ≤ 1000 := fun h => Int.le_trans (Int.ediv_le_self _ (by omega)) (by omega)
  refine ⟨(Builtin.Range.rangeSize i j c).toNat, ⟨by omega, by omega, ?_, ?_⟩, fun k hk => ?_⟩
  · unfold Builtin.Range.small
    rw [es]
    simp only [Builtin.Range.rangeFitsLong, Bool.and_eq_true, Bool.or_eq_true, decide_eq_true_eq, beq_iff_eq, show c > 0 by omega, if_true]
    split
    · have a := hdn (by assumption); have b := hdl (by assumption); omega
    · omega
  · rw [es]
    split
    · have a := hdn (by assumption); omega
    · rfl
  · rw [es] at hk
    split at hk
    · have a := hdn (by assumption)
      have e := Int.mul_ediv_add_emod (j - i - 1) c
      have r := Int.emod_nonneg (j - i - 1) (by omega : c ≠ 0)
      have hk' : (k : Int) ≤ (j - i - 1) / c := by omega
      have hm : (k : Int) * c ≤ (j - i - 1) / c * c := Int.mul_le_mul_of_nonneg_right hk' (by omega)
      rw [Int.mul_comm ((j - i - 1) / c) c] at hm
      omega
    · omega
theorem rd_rng3 {i j c : Int} {R : It → Prop} (h1 : 0 ≤ i) (h2 : i ≤ 1000) (h3 : 0 ≤ j) (h4 : j ≤ 1000) (h5 : 1 ≤ c) (h6 : c ≤ 1000) (h : ∀ n : Nat, (∀ k : Nat, k < n → i + (k : Int) * c < j) → R (Itc i c n)) : ∃ (i' j' c' : Int) (n : Nat), [V.int i, V.int j, V.int c] = [.int i', .int j', .int c'] ∧ RgC i' j' c' n ∧ R (Itc i' c' n) := by
  obtain ⟨n, a, b⟩ := rgc_up h1 h2 h3 h4 h5 h6
  exact ⟨i, j, c, n, rfl, a, h n b⟩
end JF

/-! ### fields: the mathematics of cells in squares, no program in sight -/
namespace JF
open PySem PySem.Spec PyProof.Rows L2
namespace Sq
def get : Sq → Int → Int → Int
  | leaf s, _, _ => s
  | node a b c d, x, y => if y < 2 ^ a.level then (if x < 2 ^ a.level then a.get x y else b.get (x - 2 ^ a.level) y) else (if x < 2 ^ a.level then c.get x (y - 2 ^ a.level) else d.get (x - 2 ^ a.level) (y - 2 ^ a.level))
def put : Sq → Int → Int → Int → Sq
  | leaf _, _, _, s => leaf s
  | node a b c d, x, y, s => if y < 2 ^ a.level then (if x < 2 ^ a.level then node (a.put x y s) b c d else node a (b.put (x - 2 ^ a.level) y s) c d)
      else (if x < 2 ^ a.level then node a b (c.put x (y - 2 ^ a.level) s) d else node a b c (d.put (x - 2 ^ a.level) (y - 2 ^ a.level) s))
theorem level_put (s : Int) : ∀ (S : Sq) (x y : Int), (S.put x y s).level = S.level
  | leaf _, _, _ => rfl
  | node a b c d, x, y => by
    unfold put
    split <;> split
    · exact congrArg (· + 1) (level_put s a x y)
    · rfl
    · rfl
    · rfl
theorem wf_put {s : Int} (h0 : 0 ≤ s) (h7 : s ≤ 7) : ∀ {S : Sq} (x y : Int), S.wf → (S.put x y s).wf
  | leaf _, _, _, _ => ⟨h0, h7⟩
  | node a b c d, x, y, ⟨wa, wb, wc, wd, e1, e2, e3⟩ => by
    unfold put
    split <;> split
    · exact ⟨wf_put h0 h7 _ _ wa, wb, wc, wd, by rw [level_put]; exact e1, by rw [level_put]; exact e2, by rw [level_put]; exact e3⟩
    · exact ⟨wa, wf_put h0 h7 _ _ wb, wc, wd, by rw [level_put]; exact e1, e2, e3⟩
    · exact ⟨wa, wb, wf_put h0 h7 _ _ wc, wd, e1, by rw [level_put]; exact e2, e3⟩
    · exact ⟨wa, wb, wc, wf_put h0 h7 _ _ wd, e1, e2, by rw [level_put]; exact e3⟩
theorem two_succ (n : Nat) : (2 : Int) ^ (n + 1) = 2 * 2 ^ n := by rw [Int.pow_succ]; omega
theorem two_pos (n : Nat) : (0 : Int) < 2 ^ n := Int.pow_pos (by decide)
theorem get_put {s : Int} : ∀ {S : Sq} {x y u v : Int}, S.wf → 0 ≤ x → x < 2 ^ S.level → 0 ≤ y → y < 2 ^ S.level → 0 ≤ u → u < 2 ^ S.level → 0 ≤ v → v < 2 ^ S.level → (S.put x y s).get u v = if u = x ∧ v = y then s else S.get u v
  | leaf r, x, y, u, v, _, h1, h2, h3, h4, h5, h6, h7, h8 => by
    have e : (2 : Int) ^ (leaf r).level = 1 := rfl
    rw [e] at h2 h4 h6 h8
    rw [if_pos (by omega)]; rfl
  | node a b c d, x, y, u, v, ⟨wa, wb, wc, wd, e1, e2, e3⟩, h1, h2, h3, h4, h5, h6, h7, h8 => by
    have e : (2 : Int) ^ (node a b c d).level = 2 * 2 ^ a.level := two_succ _
    rw [e] at h2 h4 h6 h8
    have ia := fun x y u v => @get_put s a x y u v wa
    have ib := fun x y u v => @get_put s b x y u v wb
    have ic := fun x y u v => @get_put s c x y u v wc
    have id_ := fun x y u v => @get_put s d x y u v wd
    rw [e1] at ib; rw [e2] at ic; rw [e3] at id_
    have la := level_put s a x y
    unfold put
    generalize hh : (2 : Int) ^ a.level = h at *
    by_cases cy : y < h <;> by_cases cx : x < h
    · rw [if_pos cy, if_pos cx]
      unfold get
      rw [la, hh]
      by_cases cv : v < h <;> by_cases cu : u < h
      · simp only [cv, cu, if_true, if_false]; rw [ia x y u v h1 cx h3 cy h5 cu h7 cv]
      · simp only [cv, cu, if_true, if_false]; rw [if_neg (by omega)]
      · simp only [cv, cu, if_true, if_false]; rw [if_neg (by omega)]
      · simp only [cv, cu, if_true, if_false]; rw [if_neg (by omega)]
    · rw [if_pos cy, if_neg cx]
      unfold get
      rw [hh]
      by_cases cv : v < h <;> by_cases cu : u < h
      · simp only [cv, cu, if_true, if_false]; rw [if_neg (by omega)]
      · simp only [cv, cu, if_true, if_false]; rw [ib (x - h) y (u - h) v (by omega) (by omega) h3 cy (by omega) (by omega) h7 cv]
        by_cases z : u = x ∧ v = y
        · rw [if_pos z, if_pos (by omega)]
        · rw [if_neg z, if_neg (by omega)]
      · simp only [cv, cu, if_true, if_false]; rw [if_neg (by omega)]
      · simp only [cv, cu, if_true, if_false]; rw [if_neg (by omega)]
    · rw [if_neg cy, if_pos cx]
      unfold get
      rw [hh]
      by_cases cv : v < h <;> by_cases cu : u < h
      · simp only [cv, cu, if_true, if_false]; rw [if_neg (by omega)]
      · simp only [cv, cu, if_true, if_false]; rw [if_neg (by omega)]
      · simp only [cv, cu, if_true, if_false]; rw [ic x (y - h) u (v - h) h1 cx (by omega) (by omega) h5 cu (by omega) (by omega)]
        by_cases z : u = x ∧ v = y
        · rw [if_pos z, if_pos (by omega)]
        · rw [if_neg z, if_neg (by omega)]
      · simp only [cv, cu, if_true, if_false]; rw [if_neg (by omega)]
    · rw [if_neg cy, if_neg cx]
      unfold get
      rw [hh]
      by_cases cv : v < h <;> by_cases cu : u < h
      · simp only [cv, cu, if_true, if_false]; rw [if_neg (by omega)]
      · simp only [cv, cu, if_true, if_false]; rw [if_neg (by omega)]
      · simp only [cv, cu, if_true, if_false]; rw [if_neg (by omega)]
      · simp only [cv, cu, if_true, if_false]; rw [id_ (x - h) (y - h) (u - h) (v - h) (by omega) (by omega) (by omega) (by omega) (by omega) (by omega) (by omega) (by omega)]
        by_cases z : u = x ∧ v = y
        · rw [if_pos z, if_pos (by omega)]
        · rw [if_neg z, if_neg (by omega)]
/-- the cell at a place, the square set about the middle -/
def half (S : Sq) : Int := 2 ^ (S.level - 1)
def val (S : Sq) (x y : Int) : Int := if -S.half ≤ x ∧ x < S.half ∧ -S.half ≤ y ∧ y < S.half then S.get (x + S.half) (y + S.half) else 0
theorem get_even (s : Int) : ∀ (l : Nat) (x y : Int), (even l s).get x y = s
  | 0, _, _ => rfl
  | l + 1, x, y => by
    unfold even get
    split <;> split <;> exact get_even s l _ _
theorem val_even0 (l : Nat) (x y : Int) : (even l 0).val x y = 0 := by
  unfold val
  split
  · exact get_even 0 l _ _
  · rfl
def wide : Sq → Sq
  | leaf s => leaf s
  | node a b c d => node (node (even a.level 0) (even a.level 0) (even a.level 0) a) (node (even a.level 0) (even a.level 0) b (even a.level 0)) (node (even a.level 0) c (even a.level 0) (even a.level 0)) (node d (even a.level 0) (even a.level 0) (even a.level 0))
theorem node_of {S : Sq} (h : 1 ≤ S.level) : ∃ a b c d, S = node a b c d := by
  cases S with
  | leaf s => simp [level] at h
  | node a b c d => exact ⟨a, b, c, d, rfl⟩
theorem level_wide {S : Sq} (h : 1 ≤ S.level) : S.wide.level = S.level + 1 := by
  obtain ⟨a, b, c, d, rfl⟩ := node_of h
  show (even a.level 0).level + 1 + 1 = a.level + 1 + 1
  rw [level_even]
theorem wf_wide {S : Sq} (w : S.wf) : S.wide.wf := by
  cases S with
  | leaf s => exact w
  | node a b c d =>
    obtain ⟨wa, wb, wc, wd, e1, e2, e3⟩ := w
    have we : (even a.level 0).wf := wf_even (by decide) (by decide) _
    have le : (even a.level 0).level = a.level := level_even _ _
    exact ⟨⟨we, we, we, wa, rfl, rfl, le.symm⟩, ⟨we, we, wb, we, rfl, by rw [e1, le], rfl⟩, ⟨we, wc, we, we, by rw [e2, le], rfl, rfl⟩, ⟨wd, we, we, we, by rw [e3, le], by rw [e3, le], by rw [e3, le]⟩, rfl, rfl, by show d.level + 1 = (even a.level 0).level + 1; rw [e3, le]⟩
theorem half_node (a b c d : Sq) : (node a b c d).half = 2 ^ a.level := rfl
set_option maxHeartbeats 4000000 in
theorem val_wide {S : Sq} (w : S.wf) (h : 1 ≤ S.level) (x y : Int) : S.wide.val x y = S.val x y := by
  obtain ⟨a, b, c, d, rfl⟩ := node_of h
  obtain ⟨wa, wb, wc, wd, e1, e2, e3⟩ := w
  have le : (even a.level 0).level = a.level := level_even _ _
  have hw : (wide (node a b c d)).half = 2 * 2 ^ a.level := by
    show (2 : Int) ^ ((even a.level 0).level + 1) = _
    rw [le]; exact two_succ _
  unfold val
  rw [hw, half_node]
  have n1 : (node (even a.level 0) (even a.level 0) (even a.level 0) a).level = a.level + 1 := by show (even a.level 0).level + 1 = _; rw [le]
  have h0 := two_pos a.level
  have e2' := two_succ a.level
  unfold wide
  simp only [get, n1, le, e3, get_even, e2']
  generalize (2 : Int) ^ a.level = h at *
  repeat' split
  all_goals first | rfl | omega | (congr 1 <;> omega)
/-! the middle, what is trimmed -/
def mid : Sq → Sq
  | node (node _ _ _ a) (node _ _ b _) (node _ c _ _) (node d _ _ _) => node a b c d
  | S => S
theorem mid_form {S : Sq} (w : S.wf) (h : 2 ≤ S.level) : ∃ a1 a2 a3 a4 b1 b2 b3 b4 c1 c2 c3 c4 d1 d2 d3 d4, S = node (node a1 a2 a3 a4) (node b1 b2 b3 b4) (node c1 c2 c3 c4) (node d1 d2 d3 d4) := by
  obtain ⟨a, b, c, d, rfl⟩ := node_of (by omega : 1 ≤ S.level)
  obtain ⟨wa, wb, wc, wd, e1, e2, e3⟩ := w
  have h' : 1 ≤ a.level := by have z : (node a b c d).level = a.level + 1 := rfl; omega
  obtain ⟨a1, a2, a3, a4, rfl⟩ := node_of h'
  obtain ⟨b1, b2, b3, b4, rfl⟩ := node_of (by omega : 1 ≤ b.level)
  obtain ⟨c1, c2, c3, c4, rfl⟩ := node_of (by omega : 1 ≤ c.level)
  obtain ⟨d1, d2, d3, d4, rfl⟩ := node_of (by omega : 1 ≤ d.level)
  exact ⟨_, _, _, _, _, _, _, _, _, _, _, _, _, _, _, _, rfl⟩
theorem wf_mid {S : Sq} (w : S.wf) (h : 2 ≤ S.level) : S.mid.wf ∧ S.mid.level + 1 = S.level := by
  obtain ⟨a1, a2, a3, a4, b1, b2, b3, b4, c1, c2, c3, c4, d1, d2, d3, d4, rfl⟩ := mid_form w h
  obtain ⟨wa, wb, wc, wd, e1, e2, e3⟩ := w
  simp only [wf] at wa wb wc wd
  simp only [level] at e1 e2 e3
  refine ⟨⟨wa.2.2.2.1, wb.2.2.1, wc.2.1, wd.1, ?_, ?_, ?_⟩, ?_⟩
  · omega
  · omega
  · omega
  · show a4.level + 1 + 1 = a1.level + 1 + 1
    omega
theorem lives_zero : ∀ {S : Sq}, S.wf → S.lives = 0 → ∀ x y, S.get x y = 0
  | leaf s, _, h, _, _ => by
    unfold lives at h
    split at h
    · assumption
    · cases h
  | node a b c d, ⟨wa, wb, wc, wd, _, _, _⟩, h, x, y => by
    have n1 := a.lives_nonneg; have n2 := b.lives_nonneg; have n3 := c.lives_nonneg; have n4 := d.lives_nonneg
    unfold lives at h
    unfold get
    split <;> split
    · exact lives_zero wa (by omega) _ _
    · exact lives_zero wb (by omega) _ _
    · exact lives_zero wc (by omega) _ _
    · exact lives_zero wd (by omega) _ _
set_option maxHeartbeats 8000000 in
theorem val_mid {S : Sq} (w : S.wf) (h : 2 ≤ S.level) (hl : ¬ S.mid.lives < S.lives) (x y : Int) : S.mid.val x y = S.val x y := by
  obtain ⟨a1, a2, a3, a4, b1, b2, b3, b4, c1, c2, c3, c4, d1, d2, d3, d4, rfl⟩ := mid_form w h
  obtain ⟨wa, wb, wc, wd, e1, e2, e3⟩ := w
  simp only [wf] at wa wb wc wd
  simp only [level] at e1 e2 e3
  simp only [mid, lives] at hl
  have na1 := a1.lives_nonneg; have na2 := a2.lives_nonneg; have na3 := a3.lives_nonneg
  have nb1 := b1.lives_nonneg; have nb2 := b2.lives_nonneg; have nb4 := b4.lives_nonneg
  have nc1 := c1.lives_nonneg; have nc3 := c3.lives_nonneg; have nc4 := c4.lives_nonneg
  have nd2 := d2.lives_nonneg; have nd3 := d3.lives_nonneg; have nd4 := d4.lives_nonneg
  have za1 := lives_zero wa.1 (by omega); have za2 := lives_zero wa.2.1 (by omega); have za3 := lives_zero wa.2.2.1 (by omega)
  have zb1 := lives_zero wb.1 (by omega); have zb2 := lives_zero wb.2.1 (by omega); have zb4 := lives_zero wb.2.2.2.1 (by omega)
  have zc1 := lives_zero wc.1 (by omega); have zc3 := lives_zero wc.2.2.1 (by omega); have zc4 := lives_zero wc.2.2.2.1 (by omega)
  have zd2 := lives_zero wd.2.1 (by omega); have zd3 := lives_zero wd.2.2.1 (by omega); have zd4 := lives_zero wd.2.2.2.1 (by omega)
  have l4 : a4.level = a1.level := by omega
  have lb : b1.level = a1.level := by omega
  have lc : c1.level = a1.level := by omega
  have ld : d1.level = a1.level := by omega
  have h0 := two_pos a1.level
  have e2' := two_succ a1.level
  unfold val
  simp only [mid, half_node, level, get, za1, za2, za3, zb1, zb2, zb4, zc1, zc3, zc4, zd2, zd3, zd4, l4, lb, lc, ld, e2']
  generalize (2 : Int) ^ a1.level = h at *
  repeat' split
  all_goals first | rfl | omega | (congr 1 <;> omega)
def trimN : Nat → Sq → Sq
  | 0, S => S
  | n + 1, S => if S.level ≤ 1 then S else if S.mid.lives < S.lives then S else trimN n S.mid
def trim (S : Sq) : Sq := trimN S.level S
/-- nothing more is to be trimmed -/
def Least (S : Sq) : Prop := S.level = 1 ∨ 2 ≤ S.level ∧ S.mid.lives < S.lives
theorem trimN_ok : ∀ (n : Nat) {S : Sq}, S.wf → 1 ≤ S.level → S.level ≤ n → (trimN n S).wf ∧ 1 ≤ (trimN n S).level ∧ (trimN n S).level ≤ S.level ∧ (trimN n S).Least ∧ ∀ x y, (trimN n S).val x y = S.val x y
  | 0, S, _, h1, h2 => by omega
  | n + 1, S, w, h1, h2 => by
    unfold trimN
    by_cases z : S.level ≤ 1
    · rw [if_pos z]
      exact ⟨w, h1, Nat.le_refl _, .inl (by omega), fun _ _ => rfl⟩
    · rw [if_neg z]
      by_cases y : S.mid.lives < S.lives
      · rw [if_pos y]
        exact ⟨w, h1, Nat.le_refl _, .inr ⟨by omega, y⟩, fun _ _ => rfl⟩
      · rw [if_neg y]
        obtain ⟨wm, lm⟩ := wf_mid w (by omega)
        obtain ⟨g1, g2, g3, g4, g5⟩ := trimN_ok n wm (by omega) (by omega)
        exact ⟨g1, g2, by omega, g4, fun u v => (g5 u v).trans (val_mid w (by omega) y u v)⟩
/-- enough turns are enough -/
theorem trimN_more : ∀ (n m : Nat) {S : Sq}, S.wf → 1 ≤ S.level → S.level ≤ n → S.level ≤ m → trimN n S = trimN m S
  | 0, m, S, _, h1, h2, _ => by omega
  | n + 1, 0, S, _, h1, _, h2 => by omega
  | n + 1, m + 1, S, w, h1, h2, h3 => by
    unfold trimN
    split
    · rfl
    · split
      · rfl
      · rename_i z _
        obtain ⟨wm, lm⟩ := wf_mid w (by omega)
        exact trimN_more n m wm (by omega) (by omega) (by omega)
theorem trim_mid {S : Sq} (w : S.wf) (h : 2 ≤ S.level) (y : ¬ S.mid.lives < S.lives) : S.trim = S.mid.trim := by
  obtain ⟨wm, lm⟩ := wf_mid w h
  unfold trim
  have e : S.level = S.mid.level + 1 := lm.symm
  rw [e]
  show (if S.level ≤ 1 then S else if S.mid.lives < S.lives then S else trimN S.mid.level S.mid) = _
  rw [if_neg (by omega), if_neg y]
theorem trim_self {S : Sq} (h : S.Least) : S.trim = S := by
  unfold trim
  cases e : S.level with
  | zero => rfl
  | succ n =>
    show (if S.level ≤ 1 then S else if S.mid.lives < S.lives then S else trimN n S.mid) = _
    rcases h with h | ⟨h, y⟩
    · rw [if_pos (by omega)]
    · rw [if_neg (by omega), if_pos y]
end Sq
end JF

/-! ### fields: the program's defs -/
namespace JF
open PySem PySem.Spec PyProof.Rows L2
theorem while_m {c : TT} {t : TS} {D : Ends} {σ : L2.St} {H : Hp} (W : Nat → L2.St → Hp → Prop) (m0 : Nat) (h0 : W m0 σ H)
    (hs : ∀ m σ H, W m σ H → c σ H fun k H1 => if k = true then ∃ N : L2.St → Hp → Prop, (∀ σ' H', N σ' H' → ∃ m', m' < m ∧ W m' σ' H') ∧ t { D with nx := N, ct := N, bk := D.nx } σ H1 else D.nx σ H1) : tWhile c t D σ H := ⟨W, ⟨m0, h0⟩, hs⟩
theorem div_lo {y h : Int} (h0 : 0 ≤ y) (h1 : y < h) : y / h = 0 ∧ y % h = y := (Int.ediv_emod_unique (by omega)).mpr ⟨by omega, h0, h1⟩
theorem div_hi {y h : Int} (h0 : h ≤ y) (h1 : y < 2 * h) : y / h = 1 ∧ y % h = y - h := (Int.ediv_emod_unique (by omega)).mpr ⟨by omega, by omega, by omega⟩
theorem small_mul {a b : Int} (h1 : -1000000 < a) (h2 : a < 1000000) (h3 : -(2 ^ 100) < b) (h4 : b < 2 ^ 100) : CMulW a b := by
  have e1 : (2 : Int) ^ 100 ≤ 2 ^ 2000 := by decide +kernel
  have e2 : (1000000 : Int) ≤ 2 ^ 2000 := by decide +kernel
  exact mulW_of (by omega) (by omega) (by omega) (by omega)
theorem pow64' {i : Nat} (h : i ≤ 60) : (0 : Int) < 2 ^ i ∧ (2 : Int) ^ i < 2 ^ 64 := by
  refine ⟨Int.pow_pos (by decide), ?_⟩
  have e2 : 2 ^ i < 2 ^ 64 := Nat.pow_lt_pow_right (by decide) (by omega)
  exact_mod_cast e2
theorem shl_ok' {i : Nat} : (1 : Int) * 2 ^ ((i : Int)).toNat = 2 ^ i := by rw [Int.one_mul, Int.toNat_natCast]
section
variable {P : Program} {w : World} {K : PySem.W.Frag} {mg : Str → Option Value} {base : Heap}
def InGround (x y : Int) : Prop := -1099511627776 ≤ x ∧ x < 1099511627776 ∧ -1099511627776 ≤ y ∧ y < 1099511627776
def sp_in_ground : Sp := fun vs H Q _ => ∃ x y : Int, vs = [.int x, .int y] ∧ InGround x y ∧ Q (.bl true) H
/-- one corner of each of four -/
def sp_meeting (C : Addr) : Sp := fun vs H Q _ => ∃ (a : GA) (rows : List (Int × Addr)) (q : List Sq) (na nb nc nd : Nat) (a1 a2 a3 a4 b1 b2 b3 b4 c1 c2 c3 c4 d1 d2 d3 d4 : Sq), vs = [.ref a.g, .int (na : Int), .int (nb : Int), .int (nc : Int), .int (nd : Int)] ∧ GAt C H a rows q ∧
  q[na]? = some (.node a1 a2 a3 a4) ∧ q[nb]? = some (.node b1 b2 b3 b4) ∧ q[nc]? = some (.node c1 c2 c3 c4) ∧ q[nd]? = some (.node d1 d2 d3 d4) ∧ (Sq.node a4 b3 c2 d1).wf ∧ a4.level ≤ 60 ∧ q.length < 16000000 ∧
  ∀ H' q' (n : Nat), GAt C H' a rows q' → q <+: q' → q'.length ≤ q.length + 1 → q'[n]? = some (.node a4 b3 c2 d1) → Fr a.m5 H H' → Q (.int (n : Int)) H'
theorem mp_meeting {C : Addr} : MonP (sp_meeting C) := fun vs H Q Q' E h ⟨a, rows, q, na, nb, nc, nd, a1, a2, a3, a4, b1, b2, b3, b4, c1, c2, c3, c4, d1, d2, d3, d4, x1, x2, x3, x4, x5, x6, x7, x8, x9, k⟩ =>
  ⟨a, rows, q, na, nb, nc, nd, a1, a2, a3, a4, b1, b2, b3, b4, c1, c2, c3, c4, d1, d2, d3, d4, x1, x2, x3, x4, x5, x6, x7, x8, x9, fun H' q' n g p l e f => h _ _ (k H' q' n g p l e f)⟩
theorem ok_meeting (T : Env fa fn K mg) : Good P w K mg base CX0 4 ("meeting", none) ["grove", "a", "b", "c", "d"] (sp_meeting (CG K)) := by
  have G_Grove_quarters := ok_quarters (P := P) (w := w) (base := base) T
  have G_Grove_knit := ok_knit (P := P) (w := w) (base := base) T
  refine good_mk T 19 (d := d_meeting) (N := ["grove", "a", "b", "c", "d", "one", "two", "three", "four"]) (ps := ["grove", "a", "b", "c", "d"]) rfl rfl sc_meeting (fun _ _ _ _ _ _ us hl => match us, hl with | [_, _, _, _, _], _ => rfl) (fun vs H Q E h => ?_) (fun f cdv A outer σ0 H vs Q E hr h => ?_)
  · obtain ⟨a, rows, q, na, nb, nc, nd, a1, a2, a3, a4, b1, b2, b3, b4, c1, c2, c3, c4, d1, d2, d3, d4, rfl, _⟩ := h; rfl
  · obtain ⟨a, rows, q, na, nb, nc, nd, a1, a2, a3, a4, b1, b2, b3, b4, c1, c2, c3, c4, d1, d2, d3, d4, rfl, G, ha, hb, hc, hd, hw, hlv, hlen, k⟩ := h
    refine ⟨_, (pss_cons (ps_set (i := 5) sc_meeting.nd rfl (Or.inl rfl) (pe_ix (ix_tupK K rfl) (pe_mgK K rfl (pv 0) (T.cls 13) (T.meth 23) G_Grove_quarters (hr.mono (by decide)) (pa_cons (pv 1) pa_nil)) pe_int (fun _ _ => rfl)))
      (pss_cons (ps_set (i := 6) sc_meeting.nd rfl (Or.inl rfl) (pe_ix (ix_tupK K rfl) (pe_mgK K rfl (pv 0) (T.cls 13) (T.meth 23) G_Grove_quarters (hr.mono (by decide)) (pa_cons (pv 2) pa_nil)) pe_int (fun _ _ => rfl)))
      (pss_cons (ps_set (i := 7) sc_meeting.nd rfl (Or.inl rfl) (pe_ix (ix_tupK K rfl) (pe_mgK K rfl (pv 0) (T.cls 13) (T.meth 23) G_Grove_quarters (hr.mono (by decide)) (pa_cons (pv 3) pa_nil)) pe_int (fun _ _ => rfl)))
      (pss_cons (ps_set (i := 8) sc_meeting.nd rfl (Or.inl rfl) (pe_ix (ix_tupK K rfl) (pe_mgK K rfl (pv 0) (T.cls 13) (T.meth 23) G_Grove_quarters (hr.mono (by decide)) (pa_cons (pv 4) pa_nil)) pe_int (fun _ _ => rfl)))
      (pss_one (ps_ret (pe_mgK K rfl (pv 0) (T.cls 13) (T.meth 17) G_Grove_knit (hr.mono (by decide)) (pa_cons (pv 5) (pa_cons (pv 6) (pa_cons (pv 7) (pa_cons (pv 8) pa_nil))))))))))), ?_⟩
    walk_at "rd"
    refine rd_methR G.ob (by rfl) ?_
    walk_at "rd"
    refine ⟨a, rows, q, na, _, _, _, _, rfl, G, ha, by omega, fun t x1 x2 x3 x4 ht _ _ _ hx => ?_⟩
    walk_at "rd"
    refine rd_methR G.ob (by rfl) ?_
    walk_at "rd"
    refine ⟨a, rows, q, nb, _, _, _, _, rfl, G, hb, by omega, fun t2 y1 y2 y3 y4 ht2 _ _ hy _ => ?_⟩
    walk_at "rd"
    refine rd_methR G.ob (by rfl) ?_
    walk_at "rd"
    refine ⟨a, rows, q, nc, _, _, _, _, rfl, G, hc, by omega, fun t3 z1 z2 z3 z4 ht3 _ hz _ _ => ?_⟩
    walk_at "rd"
    refine rd_methR G.ob (by rfl) ?_
    walk_at "rd"
    refine ⟨a, rows, q, nd, _, _, _, _, rfl, G, hd, by omega, fun t4 u1 u2 u3 u4 ht4 hu _ _ _ => ?_⟩
    walk_at "rd"
    refine rd_methR G.ob (by rfl) ?_
    walk_at "rd"
    exact ⟨a, rows, q, _, _, _, _, x4, y3, z2, u1, rfl, G, hx, hy, hz, hu, hw, hlv, hlen, k⟩
def sp_middle_of (C : Addr) : Sp := fun vs H Q _ => ∃ (a : GA) (rows : List (Int × Addr)) (q : List Sq) (n : Nat) (S : Sq), vs = [.ref a.g, .int (n : Int)] ∧ GAt C H a rows q ∧ q[n]? = some S ∧ 2 ≤ S.level ∧ S.level ≤ 60 ∧ q.length < 16000000 ∧
  ∀ H' q' (m : Nat), GAt C H' a rows q' → q <+: q' → q'.length ≤ q.length + 1 → q'[m]? = some S.mid → Fr a.m5 H H' → Q (.int (m : Int)) H'
theorem mp_middle_of {C : Addr} : MonP (sp_middle_of C) := fun vs H Q Q' E h ⟨a, rows, q, n, S, x1, x2, x3, x4, x5, x6, k⟩ => ⟨a, rows, q, n, S, x1, x2, x3, x4, x5, x6, fun H' q' m g p l e f => h _ _ (k H' q' m g p l e f)⟩
theorem ok_middle_of (T : Env fa fn K mg) : Good P w K mg base CX0 5 ("middle_of", none) ["grove", "square"] (sp_middle_of (CG K)) := by
  have G_Grove_quarters := ok_quarters (P := P) (w := w) (base := base) T
  have G_meeting := ok_meeting (P := P) (w := w) (base := base) T
  refine good_mk T 20 (d := d_middle_of) (N := ["grove", "square", "four"]) (ps := ["grove", "square"]) rfl rfl sc_middle_of (fun _ _ _ _ _ _ us hl => match us, hl with | [_, _], _ => rfl) (fun vs H Q E h => ?_) (fun f cdv A outer σ0 H vs Q E hr h => ?_)
  · obtain ⟨a, rows, q, n, S, rfl, _⟩ := h; rfl
  · obtain ⟨a, rows, q, n, S, rfl, G, hn, h2, h60, hlen, k⟩ := h
    have hw := G.wf _ (List.mem_of_getElem? hn)
    obtain ⟨wm, lm⟩ := Sq.wf_mid hw h2
    obtain ⟨a1, a2, a3, a4, b1, b2, b3, b4, c1, c2, c3, c4, d1, d2, d3, d4, rfl⟩ := Sq.mid_form hw h2
    refine ⟨_, (pss_cons (ps_set (i := 2) sc_middle_of.nd rfl (Or.inl rfl) (pe_mgK K rfl (pv 0) (T.cls 13) (T.meth 23) G_Grove_quarters (hr.mono (by decide)) (pa_cons (pv 1) pa_nil)))
      (pss_one (ps_ret (pe_cgK K rfl G_meeting (hr.mono (by decide)) (T.glo 24) (pa_cons (pv 0) (pa_cons (pe_ix (ix_tupK K rfl) (pv 2) pe_int (fun _ _ => rfl)) (pa_cons (pe_ix (ix_tupK K rfl) (pv 2) pe_int (fun _ _ => rfl)) (pa_cons (pe_ix (ix_tupK K rfl) (pv 2) pe_int (fun _ _ => rfl)) (pa_cons (pe_ix (ix_tupK K rfl) (pv 2) pe_int (fun _ _ => rfl)) pa_nil))))))))), ?_⟩
    walk_at "rd"
    refine rd_methR G.ob (by rfl) ?_
    walk_at "rd"
    refine ⟨a, rows, q, n, _, _, _, _, rfl, G, hn, by omega, fun t x1 x2 x3 x4 ht e1 e2 e3 e4 => ?_⟩
    walk_at "rd"
    have l4 : a4.level + 1 = (Sq.mid (.node (.node a1 a2 a3 a4) (.node b1 b2 b3 b4) (.node c1 c2 c3 c4) (.node d1 d2 d3 d4))).level := rfl
    exact ⟨a, rows, q, x1, x2, x3, x4, _, _, _, _, _, _, _, _, _, _, _, _, _, _, _, _, rfl, G, e1, e2, e3, e4, wm, by omega, hlen, k⟩
def sp_widened (C : Addr) : Sp := fun vs H Q _ => ∃ (a : GA) (rows : List (Int × Addr)) (q : List Sq) (n : Nat) (S : Sq), vs = [.ref a.g, .int (n : Int)] ∧ GAt C H a rows q ∧ q[n]? = some S ∧ 1 ≤ S.level ∧ S.level ≤ 47 ∧ q.length + 200 < 16000000 ∧
  ∀ H' rows' q' (m : Nat), GStep C H a rows q H' rows' q' → q'.length ≤ q.length + 60 → q'[m]? = some S.wide → Q (.int (m : Int)) H'
theorem mp_widened {C : Addr} : MonP (sp_widened C) := fun vs H Q Q' E h ⟨a, rows, q, n, S, x1, x2, x3, x4, x5, x6, k⟩ => ⟨a, rows, q, n, S, x1, x2, x3, x4, x5, x6, fun H' r' q' m g l e => h _ _ (k H' r' q' m g l e)⟩
set_option maxHeartbeats 8000000 in
theorem ok_widened (T : Env fa fn K mg) : Good P w K mg base CX0 5 ("widened", none) ["grove", "square"] (sp_widened (CG K)) := by
  have G_Grove_quarters := ok_quarters (P := P) (w := w) (base := base) T
  have G_Grove_level_of := ok_level_of (P := P) (w := w) (base := base) T
  have G_Grove_knit := ok_knit (P := P) (w := w) (base := base) T
  have G_Grove_even := ok_even (P := P) (w := w) (base := base) T
  refine good_mk T 21 (d := d_widened) (N := ["grove", "square", "level", "four", "no", "one", "two", "three", "last"]) (ps := ["grove", "square"]) rfl rfl sc_widened (fun _ _ _ _ _ _ us hl => match us, hl with | [_, _], _ => rfl) (fun vs H Q E h => ?_) (fun f cdv A outer σ0 H vs Q E hr h => ?_)
  · obtain ⟨a, rows, q, n, S, rfl, _⟩ := h; rfl
  · obtain ⟨a, rows, q, n, S, rfl, G, hn, h1, h47, hlen, k⟩ := h
    have hw := G.wf _ (List.mem_of_getElem? hn)
    obtain ⟨A', B, C', D, rfl⟩ := Sq.node_of h1
    obtain ⟨wa, wb, wc, wd, ee1, ee2, ee3⟩ := id hw
    have hl : (Sq.node A' B C' D).level = A'.level + 1 := rfl
    have we : (Sq.even A'.level 0).wf := Sq.wf_even (by decide) (by decide) _
    have le : (Sq.even A'.level 0).level = A'.level := Sq.level_even _ _
    refine ⟨_, (pss_cons (ps_set (i := 2) sc_widened.nd rfl (Or.inl rfl) (pe_mgK K rfl (pv 0) (T.cls 13) (T.meth 25) G_Grove_level_of (hr.mono (by decide)) (pa_cons (pv 1) pa_nil)))
      (pss_cons (ps_if (PW.pt (pw_or (pt_cmpR op_eq (pv 2) pe_int (nomark _)) (pw_or1 (pt_cmpR op_ge (pv 2) (pe_gint (T.int 21) rfl) (nomark _))))) pss_never pss_nil)
      (pss_cons (ps_set (i := 3) sc_widened.nd rfl (Or.inl rfl) (pe_mgK K rfl (pv 0) (T.cls 13) (T.meth 23) G_Grove_quarters (hr.mono (by decide)) (pa_cons (pv 1) pa_nil)))
      (pss_cons (ps_set (i := 4) sc_widened.nd rfl (Or.inl rfl) (pe_mgK K rfl (pv 0) (T.cls 13) (T.meth 22) G_Grove_even (hr.mono (by decide)) (pa_cons (pe_op op_sub (pv 2) pe_int) (pa_cons pe_int pa_nil))))
      (pss_cons (ps_set (i := 5) sc_widened.nd rfl (Or.inl rfl) (pe_mgK K rfl (pv 0) (T.cls 13) (T.meth 17) G_Grove_knit (hr.mono (by decide)) (pa_cons (pv 4) (pa_cons (pv 4) (pa_cons (pv 4) (pa_cons (pe_ix (ix_tupK K rfl) (pv 3) pe_int (fun _ _ => rfl)) pa_nil))))))
      (pss_cons (ps_set (i := 6) sc_widened.nd rfl (Or.inl rfl) (pe_mgK K rfl (pv 0) (T.cls 13) (T.meth 17) G_Grove_knit (hr.mono (by decide)) (pa_cons (pv 4) (pa_cons (pv 4) (pa_cons (pe_ix (ix_tupK K rfl) (pv 3) pe_int (fun _ _ => rfl)) (pa_cons (pv 4) pa_nil))))))
      (pss_cons (ps_set (i := 7) sc_widened.nd rfl (Or.inl rfl) (pe_mgK K rfl (pv 0) (T.cls 13) (T.meth 17) G_Grove_knit (hr.mono (by decide)) (pa_cons (pv 4) (pa_cons (pe_ix (ix_tupK K rfl) (pv 3) pe_int (fun _ _ => rfl)) (pa_cons (pv 4) (pa_cons (pv 4) pa_nil))))))
      (pss_cons (ps_set (i := 8) sc_widened.nd rfl (Or.inl rfl) (pe_mgK K rfl (pv 0) (T.cls 13) (T.meth 17) G_Grove_knit (hr.mono (by decide)) (pa_cons (pe_ix (ix_tupK K rfl) (pv 3) pe_int (fun _ _ => rfl)) (pa_cons (pv 4) (pa_cons (pv 4) (pa_cons (pv 4) pa_nil))))))
      (pss_one (ps_ret (pe_mgK K rfl (pv 0) (T.cls 13) (T.meth 17) G_Grove_knit (hr.mono (by decide)) (pa_cons (pv 5) (pa_cons (pv 6) (pa_cons (pv 7) (pa_cons (pv 8) pa_nil))))))))))))))), ?_⟩
    walk_at "rd"
    refine rd_methR G.ob (by rfl) ?_
    walk_at "rd"
    refine ⟨a, rows, q, n, _, rfl, G, hn, by omega, ?_⟩
    walk_at "rd"
    rw [decide_eq_false (by rw [hl]; omega)]
    walk_at "rd"
    rw [decide_eq_false (by omega)]
    walk_at "rd"
    refine rd_methR G.ob (by rfl) ?_
    walk_at "rd"
    refine ⟨a, rows, q, n, _, _, _, _, rfl, G, hn, by omega, fun t x1 x2 x3 x4 ht e1 e2 e3 e4 => ?_⟩
    walk_at "rd"
    refine rd_methR G.ob (by rfl) ?_
    walk_at "rd"
    have el : (((Sq.node A' B C' D).level : Nat) : Int) - 1 = ((A'.level : Nat) : Int) := by rw [hl]; omega
    rw [el]
    refine ⟨a, rows, q, A'.level, 0, rfl, G, by omega, by decide, by decide, by omega, fun H1 r1 q1 m0 S1 len1 hm0 => ?_⟩
    have t1 := S1.tup G _ _ ht
    have P1 := S1.pre
    walk_at "rd"
    refine rd_methR S1.gat.ob (by rfl) ?_
    walk_at "rd"
    refine ⟨a, r1, q1, _, _, _, _, m0, m0, m0, x1, rfl, S1.gat, hm0, hm0, hm0, pre_get P1 e1, ⟨we, we, we, wa, rfl, rfl, le.symm⟩, by omega, by omega, fun H2 q2 n2 G2 p2 l2 f2 fr2 => ?_⟩
    have S2 := S1.m5 G2 p2 fr2
    have t2 := S2.tup G _ _ ht
    walk_at "rd"
    refine rd_methR G2.ob (by rfl) ?_
    walk_at "rd"
    refine ⟨a, r1, q2, _, _, _, _, m0, m0, x2, m0, rfl, G2, pre_get p2 hm0, pre_get p2 hm0, pre_get S2.pre e2, pre_get p2 hm0, ⟨we, we, wb, we, rfl, by rw [ee1, le], rfl⟩, by omega, by omega, fun H3 q3 n3 G3 p3 l3 f3 fr3 => ?_⟩
    have S3 := S2.m5 G3 p3 fr3
    have t3 := S3.tup G _ _ ht
    walk_at "rd"
    refine rd_methR G3.ob (by rfl) ?_
    walk_at "rd"
    refine ⟨a, r1, q3, _, _, _, _, m0, x3, m0, m0, rfl, G3, pre_get (p2.trans p3) hm0, pre_get S3.pre e3, pre_get (p2.trans p3) hm0, pre_get (p2.trans p3) hm0, ⟨we, wc, we, we, by rw [ee2, le], rfl, rfl⟩, by omega, by omega, fun H4 q4 n4 G4 p4 l4 f4 fr4 => ?_⟩
    have S4 := S3.m5 G4 p4 fr4
    have t4 := S4.tup G _ _ ht
    walk_at "rd"
    refine rd_methR G4.ob (by rfl) ?_
    walk_at "rd"
    refine ⟨a, r1, q4, _, _, _, _, x4, m0, m0, m0, rfl, G4, pre_get S4.pre e4, pre_get ((p2.trans p3).trans p4) hm0, pre_get ((p2.trans p3).trans p4) hm0, pre_get ((p2.trans p3).trans p4) hm0, ⟨wd, we, we, we, by rw [ee3, le], by rw [ee3, le], by rw [ee3, le]⟩, by omega, by omega, fun H5 q5 n5 G5 p5 l5 f5 fr5 => ?_⟩
    have S5 := S4.m5 G5 p5 fr5
    walk_at "rd"
    refine rd_methR G5.ob (by rfl) ?_
    walk_at "rd"
    have ww := Sq.wf_wide hw
    have lw : (Sq.node (Sq.even A'.level 0) (Sq.even A'.level 0) (Sq.even A'.level 0) A').level = A'.level + 1 := by show (Sq.even A'.level 0).level + 1 = _; rw [le]
    refine ⟨a, r1, q5, _, _, _, _, n2, n3, n4, n5, rfl, G5, pre_get ((p3.trans p4).trans p5) f2, pre_get (p4.trans p5) f3, pre_get p5 f4, f5, ww, by omega, by omega, fun H6 q6 n6 G6 p6 l6 f6 fr6 => ?_⟩
    exact k _ _ _ _ (S5.m5 G6 p6 fr6) (by omega) f6
def sp_trimmed (C : Addr) : Sp := fun vs H Q _ => ∃ (a : GA) (rows : List (Int × Addr)) (q : List Sq) (n : Nat) (S : Sq), vs = [.ref a.g, .int (n : Int)] ∧ GAt C H a rows q ∧ q[n]? = some S ∧ 1 ≤ S.level ∧ S.level ≤ 60 ∧ q.length + 200 < 16000000 ∧
  ∀ H' q' (m : Nat), GStep C H a rows q H' rows q' → q'.length ≤ q.length + 60 → q'[m]? = some S.trim → Q (.int (m : Int)) H'
theorem mp_trimmed {C : Addr} : MonP (sp_trimmed C) := fun vs H Q Q' E h ⟨a, rows, q, n, S, x1, x2, x3, x4, x5, x6, k⟩ => ⟨a, rows, q, n, S, x1, x2, x3, x4, x5, x6, fun H' q' m g l e => h _ _ (k H' q' m g l e)⟩
theorem ok_trimmed (T : Env fa fn K mg) : Good P w K mg base CX0 6 ("trimmed", none) ["grove", "square"] (sp_trimmed (CG K)) := by
  have G_Grove_level_of := ok_level_of (P := P) (w := w) (base := base) T
  have G_Grove_living := ok_living (P := P) (w := w) (base := base) T
  have G_middle_of := ok_middle_of (P := P) (w := w) (base := base) T
  refine good_mk T 22 (d := d_trimmed) (N := ["grove", "square", "inner"]) (ps := ["grove", "square"]) rfl rfl sc_trimmed (fun _ _ _ _ _ _ us hl => match us, hl with | [_, _], _ => rfl) (fun vs H Q E h => ?_) (fun f cdv A outer σ0 H vs Q E hr h => ?_)
  · obtain ⟨a, rows, q, n, S, rfl, _⟩ := h; rfl
  · obtain ⟨a, rows, q, n, S, rfl, G, hn, h1, h60, hlen, k⟩ := h
    refine ⟨_, (pss_cons (ps_if (pt_cmpR op_eq (pe_mgK K rfl (pv 0) (T.cls 13) (T.meth 25) G_Grove_level_of (hr.mono (by decide)) (pa_cons (pv 1) pa_nil)) pe_int (nomark _)) pss_never pss_nil)
      (pss_cons (ps_while PassesOwn.never (pt_cmpR op_gt (pe_mgK K rfl (pv 0) (T.cls 13) (T.meth 25) G_Grove_level_of (hr.mono (by decide)) (pa_cons (pv 1) pa_nil)) pe_int (nomark _)) (pss_cons (ps_set (i := 2) sc_trimmed.nd rfl (Or.inl rfl) (pe_cgK K rfl G_middle_of (hr.mono (by decide)) (T.glo 26) (pa_cons (pv 0) (pa_cons (pv 1) pa_nil))))
      (pss_cons (ps_if (pt_cmpR op_lt (pe_mgK K rfl (pv 0) (T.cls 13) (T.meth 27) G_Grove_living (hr.mono (by decide)) (pa_cons (pv 2) pa_nil)) (pe_mgK K rfl (pv 0) (T.cls 13) (T.meth 27) G_Grove_living (hr.mono (by decide)) (pa_cons (pv 1) pa_nil)) (nomark _)) (pss_one (ps_ret (pv 1))) pss_nil)
      (pss_one (ps_set (i := 1) sc_trimmed.nd rfl (Or.inl rfl) (pv 2))))))
      (pss_one (ps_ret (pv 1))))), ?_⟩
    walk_at "rd"
    refine rd_methR G.ob (by rfl) ?_
    walk_at "rd"
    refine ⟨a, rows, q, n, _, rfl, G, hn, by omega, ?_⟩
    walk_at "rd"
    rw [decide_eq_false (by omega)]
    walk_at "rd"
    refine while_m (fun m σ H' => ∃ (q1 : List Sq) (n1 : Nat) (S1 : Sq) (x2 : Option V), σ = [some (.ref a.g), some (.int (n1 : Int)), x2] ∧ GStep (CG K) H a rows q H' rows q1 ∧ q1[n1]? = some S1 ∧ m = S1.level ∧ 1 ≤ S1.level ∧ S1.level ≤ S.level ∧ S1.trim = S.trim ∧ q1.length + S1.level ≤ q.length + S.level) S.level
      ⟨q, n, S, none, rfl, GStep.refl G, hn, rfl, h1, Nat.le_refl _, rfl, Nat.le_refl _⟩ ?_
    rintro m σ H1 ⟨q1, n1, S1, x2, rfl, St, hn1, rfl, g1, g2, g3, g4⟩
    have hw := St.gat.wf _ (List.mem_of_getElem? hn1)
    walk_at "rd"
    refine rd_methR St.gat.ob (by rfl) ?_
    walk_at "rd"
    refine ⟨a, rows, q1, n1, _, rfl, St.gat, hn1, by omega, ?_⟩
    walk_at "rd"
    refine ite_d (fun hb => ?_) (fun hb => ?_)
    · refine ⟨fun σ' H' => ∃ m', m' < S1.level ∧ _, fun _ _ h => h, ?_⟩
      walk_at "rd"
      refine ⟨a, rows, q1, n1, S1, rfl, St.gat, hn1, by omega, by omega, by omega, fun H2 q2 m2 G2 p2 l2 e2 fr2 => ?_⟩
      have S2 := St.m5 G2 p2 fr2
      obtain ⟨wm, lm⟩ := Sq.wf_mid hw (by omega)
      have hn2 := pre_get p2 hn1
      walk_at "rd"
      refine rd_methR G2.ob (by rfl) ?_
      walk_at "rd"
      refine ⟨a, rows, q2, m2, _, rfl, G2, e2, by omega, ?_⟩
      walk_at "rd"
      refine rd_methR G2.ob (by rfl) ?_
      walk_at "rd"
      refine ⟨a, rows, q2, n1, _, rfl, G2, hn2, by omega, ?_⟩
      walk_at "rd"
      refine ite_d (fun hc => ?_) (fun hc => ?_)
      · walk_at "rd"
        refine k _ q2 n1 S2 (by omega) ?_
        rw [← g3, Sq.trim_self (.inr ⟨by omega, hc⟩)]
        exact hn2
      · walk_at "rd"
        exact ⟨S1.mid.level, by omega, q2, m2, S1.mid, _, rfl, S2, e2, rfl, by omega, by omega, (Sq.trim_mid hw (by omega) hc).symm.trans g3, by omega⟩
    · walk_at "rd"
      refine k _ q1 n1 St (by omega) ?_
      rw [← g3, Sq.trim_self (.inl (by omega))]
      exact hn1
end
end JF

/-! ### fields: cell_at, put_in, planted -/
namespace JF
open PySem PySem.Spec PyProof.Rows L2
theorem get_node (a b c d : Sq) (x y : Int) : (Sq.node a b c d).get x y = if y < 2 ^ a.level then (if x < 2 ^ a.level then a.get x y else b.get (x - 2 ^ a.level) y) else (if x < 2 ^ a.level then c.get x (y - 2 ^ a.level) else d.get (x - 2 ^ a.level) (y - 2 ^ a.level)) := rfl
theorem band1 (i : Int) : Builtin.bitAnd i 1 = i % 2 := PySem.W.kbt_mask i 1
theorem bit_split {X h : Int} (h0 : 0 < h) : ((X / h) % 2 = 0 ∧ X % (2 * h) = X % h) ∨ ((X / h) % 2 = 1 ∧ X % (2 * h) = X % h + h) := by
  have e := Int.mul_ediv_add_emod X h
  have r0 := Int.emod_nonneg X (by omega : h ≠ 0)
  have r1 := Int.emod_lt_of_pos X h0
  have e2 := Int.mul_ediv_add_emod (X / h) 2
  generalize X / h = k at *
  generalize X % h = r at *
  have e3 : h * k = 2 * h * (k / 2) + h * (k % 2) := by
    have z : h * k = h * (2 * (k / 2) + k % 2) := by rw [e2]
    rw [z, Int.mul_add, ← Int.mul_assoc, Int.mul_comm h 2]
  rcases (by omega : k % 2 = 0 ∨ k % 2 = 1) with z | z
  · left
    refine ⟨z, ((Int.ediv_emod_unique (q := k / 2) (r := r) (by omega)).mpr ⟨?_, r0, by omega⟩).2⟩
    rw [z, Int.mul_zero] at e3
    omega
  · right
    refine ⟨z, ((Int.ediv_emod_unique (q := k / 2) (r := r + h) (by omega)).mpr ⟨?_, by omega, by omega⟩).2⟩
    rw [z, Int.mul_one] at e3
    omega
section
variable {P : Program} {w : World} {K : PySem.W.Frag} {mg : Str → Option Value} {base : Heap}
def sp_cell_at (C : Addr) : Sp := fun vs H Q _ => ∃ (a : GA) (rows : List (Int × Addr)) (q : List Sq) (n : Nat) (S : Sq) (x y : Int), vs = [.ref a.g, .int (n : Int), .int x, .int y] ∧ GAt C H a rows q ∧ q[n]? = some S ∧ 1 ≤ S.level ∧ S.level ≤ 60 ∧ q.length ≤ 16000000 ∧ Q (.int (S.val x y)) H
theorem mp_cell_at {C : Addr} : MonP (sp_cell_at C) := fun vs H Q Q' E h ⟨a, rows, q, n, S, x, y, x1, x2, x3, x4, x5, x6, k⟩ => ⟨a, rows, q, n, S, x, y, x1, x2, x3, x4, x5, x6, h _ _ k⟩
end
end JF

/-! ### fields: put_in, planted -/
namespace JF
open PySem PySem.Spec PyProof.Rows L2
section
variable {P : Program} {w : World} {K : PySem.W.Frag} {mg : Str → Option Value} {base : Heap}
def sp_put_in (C : Addr) (L : Nat) : Sp := fun vs H Q _ => ∃ (a : GA) (rows : List (Int × Addr)) (q : List Sq) (n m : Nat) (S : Sq) (s x y : Int), vs = [.ref a.g, .int (n : Int), .int x, .int y, .int (m : Int)] ∧ GAt C H a rows q ∧ q[n]? = some S ∧ q[m]? = some (.leaf s) ∧ S.level ≤ L ∧ S.level ≤ 60 ∧
  0 ≤ x ∧ x < 2 ^ S.level ∧ 0 ≤ y ∧ y < 2 ^ S.level ∧ q.length + 200 < 16000000 ∧ ∀ H' q' (r : Nat), GStep C H a rows q H' rows q' → q'.length ≤ q.length + S.level → q'[r]? = some (S.put x y s) → Q (.int (r : Int)) H'
theorem mp_put_in {C : Addr} {L : Nat} : MonP (sp_put_in C L) := fun vs H Q Q' E h ⟨a, rows, q, n, m, S, s, x, y, x1, x2, x3, x4, x5, x6, x7, x8, x9, y1, y2, k⟩ => ⟨a, rows, q, n, m, S, s, x, y, x1, x2, x3, x4, x5, x6, x7, x8, x9, y1, y2, fun H' q' r g l e => h _ _ (k H' q' r g l e)⟩
theorem put_node (a b c d : Sq) (x y s : Int) : (Sq.node a b c d).put x y s = if y < 2 ^ a.level then (if x < 2 ^ a.level then .node (a.put x y s) b c d else .node a (b.put (x - 2 ^ a.level) y s) c d)
      else (if x < 2 ^ a.level then .node a b (c.put x (y - 2 ^ a.level) s) d else .node a b c (d.put (x - 2 ^ a.level) (y - 2 ^ a.level) s)) := rfl
end
end JF

/-! ### fields: planted -/
namespace JF
open PySem PySem.Spec PyProof.Rows L2
theorem dec_use {c : TT} {σ : L2.St} {H : Hp} {QB : Bool → Hp → Prop} (b : Bool) (h : ∀ QB : Bool → Hp → Prop, QB b H → c σ H QB) (q : QB b H) : c σ H QB := h _ q
theorem half_two {S : Sq} (h : 1 ≤ S.level) : (2 : Int) ^ S.level = 2 * S.half := by
  have e : S.level = (S.level - 1) + 1 := by omega
  rw [e]; exact Sq.two_succ _
theorem val_put {W : Sq} (w : W.wf) (h : 1 ≤ W.level) {x y s : Int} (hx0 : -W.half ≤ x) (hx1 : x < W.half) (hy0 : -W.half ≤ y) (hy1 : y < W.half) (u v : Int) : (W.put (x + W.half) (y + W.half) s).val u v = if u = x ∧ v = y then s else W.val u v := by
  have e := half_two h
  have eh : (W.put (x + W.half) (y + W.half) s).half = W.half := by unfold Sq.half; rw [Sq.level_put]
  unfold Sq.val
  rw [eh]
  by_cases z : -W.half ≤ u ∧ u < W.half ∧ -W.half ≤ v ∧ v < W.half
  · rw [if_pos z, if_pos z, Sq.get_put w (by omega) (by omega) (by omega) (by omega) (by omega) (by omega) (by omega) (by omega)]
    by_cases y' : u = x ∧ v = y
    · rw [if_pos y', if_pos (by omega)]
    · rw [if_neg y', if_neg (by omega)]
  · rw [if_neg z, if_neg z, if_neg (by omega)]
section
variable {P : Program} {w : World} {K : PySem.W.Frag} {mg : Str → Option Value} {base : Heap}
def sp_planted (C : Addr) : Sp := fun vs H Q _ => ∃ (a : GA) (rows : List (Int × Addr)) (q : List Sq) (n : Nat) (S : Sq) (x y s : Int), vs = [.ref a.g, .int (n : Int), .int x, .int y, .int s] ∧ GAt C H a rows q ∧ q[n]? = some S ∧ 1 ≤ S.level ∧ S.level ≤ 41 ∧ InGround x y ∧ 0 ≤ s ∧ s ≤ 7 ∧
  q.length + 10000 < 16000000 ∧ ∀ H' rows' q' (m : Nat) (T : Sq), GStep C H a rows q H' rows' q' → q'.length ≤ q.length + 4000 → q'[m]? = some T → 1 ≤ T.level → T.level ≤ 41 → T.Least → (∀ u v, T.val u v = if u = x ∧ v = y then s else S.val u v) → Q (.int (m : Int)) H'
theorem mp_planted {C : Addr} : MonP (sp_planted C) := fun vs H Q Q' E h ⟨a, rows, q, n, S, x, y, s, x1, x2, x3, x4, x5, x6, x7, x8, x9, k⟩ => ⟨a, rows, q, n, S, x, y, s, x1, x2, x3, x4, x5, x6, x7, x8, x9, fun H' r' q' m T g l e f1 f2 f3 f4 => h _ _ (k H' r' q' m T g l e f1 f2 f3 f4)⟩
end
end JF

/-! ### fields: field_of -/
namespace JF
open PySem PySem.Spec PyProof.Rows L2
abbrev Cell3 := Int × Int × Int
def c3 (c : Cell3) : List Int := [c.1, c.2.1, c.2.2]
/-- what a list of cells says of a place, the later one of two -/
def layC (f : Int → Int → Int) : List Cell3 → Int → Int → Int
  | [], u, v => f u v
  | c :: cs, u, v => layC (fun u v => if u = c.1 ∧ v = c.2.1 then c.2.2 else f u v) cs u v
theorem layC_snoc : ∀ (cs : List Cell3) (f : Int → Int → Int) (c : Cell3) (u v : Int), layC f (cs ++ [c]) u v = if u = c.1 ∧ v = c.2.1 then c.2.2 else layC f cs u v
  | [], f, c, u, v => rfl
  | x :: cs, f, c, u, v => layC_snoc cs _ c u v
theorem TR.at {H : Hp} : ∀ {rs : List Addr} {xs : List (List Int)} {i : Nat} {x : List Int}, TR H rs xs → xs[i]? = some x → ∃ r, rs[i]? = some r ∧ H r = some (.tup (x.map V.int))
  | [], [], _, _, _, e => by simp at e
  | r :: rs, x :: xs, 0, _, h, e => by
    simp only [List.getElem?_cons_zero, Option.some.injEq] at e
    subst e
    exact ⟨r, rfl, h.1⟩
  | r :: rs, x :: xs, i + 1, _, h, e => by
    simp only [List.getElem?_cons_succ] at e ⊢
    exact TR.at h.2 e
  | [], _ :: _, _, _, h, _ => h.elim
  | _ :: _, [], _, _, h, _ => h.elim
section
variable {P : Program} {w : World} {K : PySem.W.Frag} {mg : Str → Option Value} {base : Heap}
/-- the cells lie in tuples; the list stands beside the grove -/
def sp_field_of (C : Addr) : Sp := fun vs H Q _ => ∃ (a : GA) (rows : List (Int × Addr)) (q : List Sq) (p : Addr) (rs : List Addr) (cs : List Cell3), vs = [.ref a.g, .ref p] ∧ GAt C H a rows q ∧ H p = some (.lst (rs.map V.ref)) ∧ p ∉ a.muts rows ∧ TR H rs (cs.map c3) ∧ (∀ c ∈ cs, InGround c.1 c.2.1 ∧ 0 ≤ c.2.2 ∧ c.2.2 ≤ 7) ∧
  cs.length ≤ 500 ∧ q.length + 4000 * cs.length + 20000 < 16000000 ∧ ∀ H' rows' q' (m : Nat) (T : Sq), GStep C H a rows q H' rows' q' → q'.length ≤ q.length + 4000 * cs.length + 10 → q'[m]? = some T → 1 ≤ T.level → T.level ≤ 41 → T.Least → (∀ u v, T.val u v = layC (fun _ _ => 0) cs u v) → Q (.int (m : Int)) H'
theorem mp_field_of {C : Addr} : MonP (sp_field_of C) := fun vs H Q Q' E h ⟨a, rows, q, p, rs, cs, x1, x2, x3, x4, x5, x6, x7, x8, k⟩ => ⟨a, rows, q, p, rs, cs, x1, x2, x3, x4, x5, x6, x7, x8, fun H' r' q' m T g l e f1 f2 f3 f4 => h _ _ (k H' r' q' m T g l e f1 f2 f3 f4)⟩
end
end JF

/-! ### fields: what is trimmed, the least level -/
namespace JF
open PySem PySem.Spec PyProof.Rows L2
/-! #### the plain law -/
theorem lives_wide {S : Sq} (h : 1 ≤ S.level) : S.wide.lives = S.lives := by
  obtain ⟨a, b, c, d, rfl⟩ := Sq.node_of h
  have e := (even_none a.level).1
  show (_ : Int) = a.lives + b.lives + c.lives + d.lives
  simp only [Sq.wide, Sq.lives, e]
  omega
theorem trim_wide {S : Sq} (w : S.wf) (h : 1 ≤ S.level) : S.wide.trim = S.trim := by
  have hm : S.wide.mid = S := by
    obtain ⟨a, b, c, d, rfl⟩ := Sq.node_of h
    rfl
  have e := Sq.trim_mid (Sq.wf_wide w) (by rw [Sq.level_wide h]; omega) (by rw [hm, lives_wide h]; omega)
  rw [hm] at e
  exact e
theorem lives_of_get : ∀ {S : Sq}, S.wf → (∀ x y, 0 ≤ x → x < 2 ^ S.level → 0 ≤ y → y < 2 ^ S.level → S.get x y = 0) → S.lives = 0
  | .leaf s, _, h => by
    have e : s = 0 := h 0 0 (by decide) (by show (0 : Int) < 1; decide) (by decide) (by show (0 : Int) < 1; decide)
    subst e; rfl
  | .node a b c d, ⟨wa, wb, wc, wd, e1, e2, e3⟩, h => by
    have el : (2 : Int) ^ (Sq.node a b c d).level = 2 * 2 ^ a.level := Sq.two_succ _
    rw [el] at h
    have hp := Sq.two_pos a.level
    have ha := lives_of_get wa fun x y h1 h2 h3 h4 => by
      have z := h x y h1 (by omega) h3 (by omega)
      rw [get_node, if_pos h4, if_pos h2] at z
      exact z
    have hb := lives_of_get wb fun x y h1 h2 h3 h4 => by
      rw [e1] at h2 h4
      have z := h (x + 2 ^ a.level) y (by omega) (by omega) h3 (by omega)
      rw [get_node, if_pos h4, if_neg (by omega), Int.add_sub_cancel] at z
      exact z
    have hc := lives_of_get wc fun x y h1 h2 h3 h4 => by
      rw [e2] at h2 h4
      have z := h x (y + 2 ^ a.level) h1 (by omega) (by omega) (by omega)
      rw [get_node, if_neg (by omega), if_pos h2, Int.add_sub_cancel] at z
      exact z
    have hd := lives_of_get wd fun x y h1 h2 h3 h4 => by
      rw [e3] at h2 h4
      have z := h (x + 2 ^ a.level) (y + 2 ^ a.level) (by omega) (by omega) (by omega) (by omega)
      rw [get_node, if_neg (by omega), if_neg (by omega), Int.add_sub_cancel, Int.add_sub_cancel] at z
      exact z
    show a.lives + b.lives + c.lives + d.lives = 0
    omega
theorem two_le (n : Nat) : ∀ k : Nat, (2 : Int) ^ n ≤ 2 ^ (n + k)
  | 0 => Int.le_refl _
  | k + 1 => by
    have h := two_le n k
    have e : (2 : Int) ^ (n + (k + 1)) = 2 * 2 ^ (n + k) := Sq.two_succ (n + k)
    have p := Sq.two_pos (n + k)
    omega
theorem two_mono {n m : Nat} (h : n ≤ m) : (2 : Int) ^ n ≤ 2 ^ m := by
  have e := two_le n (m - n)
  rwa [Nat.add_sub_cancel' h] at e
def InL (r : Nat) (x y : Int) : Prop := -(2 ^ (r - 1)) ≤ x ∧ x < 2 ^ (r - 1) ∧ -(2 ^ (r - 1)) ≤ y ∧ y < 2 ^ (r - 1)
instance (r : Nat) (x y : Int) : Decidable (InL r x y) := by unfold InL; infer_instance
theorem InL.up {r : Nat} {x y : Int} (h : InL r x y) (h1 : 1 ≤ r) : InL (r + 1) x y := by
  have e : (2 : Int) ^ (r + 1 - 1) = 2 * 2 ^ (r - 1) := by
    have e : r + 1 - 1 = (r - 1) + 1 := by omega
    rw [e]; exact Sq.two_succ _
  have hp := Sq.two_pos (r - 1)
  unfold InL at *
  rw [e]
  omega
theorem InL.mono {r : Nat} {x y : Int} (h : InL r x y) (h1 : 1 ≤ r) : ∀ k, InL (r + k) x y
  | 0 => h
  | k + 1 => (InL.mono h h1 k).up (by omega)
theorem val_in {S : Sq} {x y : Int} (h : S.val x y ≠ 0) : InL S.level x y := by
  apply Decidable.byContradiction
  intro z
  apply h
  unfold Sq.val
  exact if_neg z
theorem least_out {S : Sq} (w : S.wf) (h2 : 2 ≤ S.level) (hl : S.mid.lives < S.lives) : ∃ x y, S.val x y ≠ 0 ∧ ¬ InL (S.level - 1) x y := by
  apply Classical.byContradiction
  intro hn
  have hz : ∀ x y, ¬ InL (S.level - 1) x y → S.val x y = 0 := fun x y z => Classical.byContradiction fun y' => hn ⟨x, y, y', z⟩
  obtain ⟨a1, a2, a3, a4, b1, b2, b3, b4, c1, c2, c3, c4, d1, d2, d3, d4, rfl⟩ := Sq.mid_form w h2
  obtain ⟨wa, wb, wc, wd, e1, e2, e3⟩ := w
  simp only [Sq.wf] at wa wb wc wd
  simp only [Sq.level] at e1 e2 e3
  have lv : (Sq.node (Sq.node a1 a2 a3 a4) (Sq.node b1 b2 b3 b4) (Sq.node c1 c2 c3 c4) (Sq.node d1 d2 d3 d4)).level = a1.level + 1 + 1 := rfl
  have h0 := Sq.two_pos a1.level
  have e2' := Sq.two_succ a1.level
  have hlf : (Sq.node (Sq.node a1 a2 a3 a4) (Sq.node b1 b2 b3 b4) (Sq.node c1 c2 c3 c4) (Sq.node d1 d2 d3 d4)).half = 2 * 2 ^ a1.level := e2'
  have lb : b1.level = a1.level := by omega
  have lc : c1.level = a1.level := by omega
  have ld : d1.level = a1.level := by omega
  -- the cell at an offset
  have key : ∀ X Y : Int, 0 ≤ X → X < 4 * 2 ^ a1.level → 0 ≤ Y → Y < 4 * 2 ^ a1.level → ¬ (2 ^ a1.level ≤ X ∧ X < 3 * 2 ^ a1.level ∧ 2 ^ a1.level ≤ Y ∧ Y < 3 * 2 ^ a1.level) →
      (Sq.node (Sq.node a1 a2 a3 a4) (Sq.node b1 b2 b3 b4) (Sq.node c1 c2 c3 c4) (Sq.node d1 d2 d3 d4)).get X Y = 0 := fun X Y h1 h2 h3 h4 h5 => by
    have z := hz (X - 2 * 2 ^ a1.level) (Y - 2 * 2 ^ a1.level) (by
      unfold InL
      have e : a1.level + 1 + 1 - 1 - 1 = a1.level := by omega
      rw [lv, e]
      omega)
    unfold Sq.val at z
    rw [hlf, if_pos (by omega), Int.sub_add_cancel, Int.sub_add_cancel] at z
    exact z
  simp only [get_node, Sq.level, lb, lc, ld, e2'] at key
  have za1 := lives_of_get wa.1 fun x y p1 p2 p3 p4 => by
    have z := key x y p1 (by omega) p3 (by omega) (by omega)
    rwa [if_pos (by omega), if_pos (by omega), if_pos (by omega), if_pos (by omega)] at z
  have za2 := lives_of_get wa.2.1 fun x y p1 p2 p3 p4 => by
    have l2 : a2.level = a1.level := by omega
    rw [l2] at p2 p4
    have z := key (x + 2 ^ a1.level) y (by omega) (by omega) p3 (by omega) (by omega)
    rwa [if_pos (by omega), if_pos (by omega), if_pos (by omega), if_neg (by omega), Int.add_sub_cancel] at z
  have za3 := lives_of_get wa.2.2.1 fun x y p1 p2 p3 p4 => by
    have l2 : a3.level = a1.level := by omega
    rw [l2] at p2 p4
    have z := key x (y + 2 ^ a1.level) (by omega) (by omega) (by omega) (by omega) (by omega)
    rwa [if_pos (by omega), if_pos (by omega), if_neg (by omega), if_pos (by omega), Int.add_sub_cancel] at z
  have zb1 := lives_of_get wb.1 fun x y p1 p2 p3 p4 => by
    rw [lb] at p2 p4
    have z := key (x + 2 * 2 ^ a1.level) y (by omega) (by omega) p3 (by omega) (by omega)
    rwa [if_pos (by omega), if_neg (by omega), if_pos (by omega), if_pos (by omega), Int.add_sub_cancel] at z
  have zb2 := lives_of_get wb.2.1 fun x y p1 p2 p3 p4 => by
    have l2 : b2.level = a1.level := by omega
    rw [l2] at p2 p4
    have z := key (x + 3 * 2 ^ a1.level) y (by omega) (by omega) p3 (by omega) (by omega)
    rw [if_pos (by omega), if_neg (by omega), if_pos (by omega), if_neg (by omega)] at z
    have e : x + 3 * 2 ^ a1.level - 2 * 2 ^ a1.level - 2 ^ a1.level = x := by omega
    rwa [e] at z
  have zb4 := lives_of_get wb.2.2.2.1 fun x y p1 p2 p3 p4 => by
    have l2 : b4.level = a1.level := by omega
    rw [l2] at p2 p4
    have z := key (x + 3 * 2 ^ a1.level) (y + 2 ^ a1.level) (by omega) (by omega) (by omega) (by omega) (by omega)
    rw [if_pos (by omega), if_neg (by omega), if_neg (by omega), if_neg (by omega), Int.add_sub_cancel] at z
    have e : x + 3 * 2 ^ a1.level - 2 * 2 ^ a1.level - 2 ^ a1.level = x := by omega
    rwa [e] at z
  have zc1 := lives_of_get wc.1 fun x y p1 p2 p3 p4 => by
    rw [lc] at p2 p4
    have z := key x (y + 2 * 2 ^ a1.level) (by omega) (by omega) (by omega) (by omega) (by omega)
    rwa [if_neg (by omega), if_pos (by omega), if_pos (by omega), if_pos (by omega), Int.add_sub_cancel] at z
  have zc3 := lives_of_get wc.2.2.1 fun x y p1 p2 p3 p4 => by
    have l2 : c3.level = a1.level := by omega
    rw [l2] at p2 p4
    have z := key x (y + 3 * 2 ^ a1.level) (by omega) (by omega) (by omega) (by omega) (by omega)
    rw [if_neg (by omega), if_pos (by omega), if_neg (by omega), if_pos (by omega)] at z
    have e : y + 3 * 2 ^ a1.level - 2 * 2 ^ a1.level - 2 ^ a1.level = y := by omega
    rwa [e] at z
  have zc4 := lives_of_get wc.2.2.2.1 fun x y p1 p2 p3 p4 => by
    have l2 : c4.level = a1.level := by omega
    rw [l2] at p2 p4
    have z := key (x + 2 ^ a1.level) (y + 3 * 2 ^ a1.level) (by omega) (by omega) (by omega) (by omega) (by omega)
    rw [if_neg (by omega), if_pos (by omega), if_neg (by omega), if_neg (by omega), Int.add_sub_cancel] at z
    have e : y + 3 * 2 ^ a1.level - 2 * 2 ^ a1.level - 2 ^ a1.level = y := by omega
    rwa [e] at z
  have zd2 := lives_of_get wd.2.1 fun x y p1 p2 p3 p4 => by
    have l2 : d2.level = a1.level := by omega
    rw [l2] at p2 p4
    have z := key (x + 3 * 2 ^ a1.level) (y + 2 * 2 ^ a1.level) (by omega) (by omega) (by omega) (by omega) (by omega)
    rw [if_neg (by omega), if_neg (by omega), if_pos (by omega), if_neg (by omega), Int.add_sub_cancel] at z
    have e : x + 3 * 2 ^ a1.level - 2 * 2 ^ a1.level - 2 ^ a1.level = x := by omega
    rwa [e] at z
  have zd3 := lives_of_get wd.2.2.1 fun x y p1 p2 p3 p4 => by
    have l2 : d3.level = a1.level := by omega
    rw [l2] at p2 p4
    have z := key (x + 2 * 2 ^ a1.level) (y + 3 * 2 ^ a1.level) (by omega) (by omega) (by omega) (by omega) (by omega)
    rw [if_neg (by omega), if_neg (by omega), if_neg (by omega), if_pos (by omega), Int.add_sub_cancel] at z
    have e : y + 3 * 2 ^ a1.level - 2 * 2 ^ a1.level - 2 ^ a1.level = y := by omega
    rwa [e] at z
  have zd4 := lives_of_get wd.2.2.2.1 fun x y p1 p2 p3 p4 => by
    have l2 : d4.level = a1.level := by omega
    rw [l2] at p2 p4
    have z := key (x + 3 * 2 ^ a1.level) (y + 3 * 2 ^ a1.level) (by omega) (by omega) (by omega) (by omega) (by omega)
    rw [if_neg (by omega), if_neg (by omega), if_neg (by omega), if_neg (by omega)] at z
    have e : x + 3 * 2 ^ a1.level - 2 * 2 ^ a1.level - 2 ^ a1.level = x := by omega
    have e' : y + 3 * 2 ^ a1.level - 2 * 2 ^ a1.level - 2 ^ a1.level = y := by omega
    rwa [e, e'] at z
  simp only [Sq.mid, Sq.lives] at hl
  omega
end JF

/-! ### sorted of tuples of whole numbers, all of one length, any number of them -/
namespace JF
open PySem PySem.Spec PyProof.Rows L2
def lexL : List Int → List Int → Bool
  | _, [] => false
  | [], _ :: _ => true
  | x :: r, y :: q => if x = y then lexL r q else decide (x < y)
theorem lexL_cons (x y : Int) (r q : List Int) : lexL (x :: r) (y :: q) = if x = y then lexL r q else decide (x < y) := rfl
theorem lexL_nil : ∀ l : List Int, lexL l [] = false
  | [] => rfl
  | _ :: _ => rfl
theorem lexL_asym : ∀ x y : List Int, lexL x y = true → lexL y x = false
  | _, [], h => by rw [lexL_nil] at h; cases h
  | [], _ :: _, _ => rfl
  | x :: r, y :: q, h => by
    rw [lexL_cons] at h ⊢
    by_cases e : x = y
    · rw [if_pos e] at h; rw [if_pos e.symm]; exact lexL_asym r q h
    · rw [if_neg e, decide_eq_true_eq] at h
      rw [if_neg (fun z => e z.symm), decide_eq_false_iff_not]
      omega
theorem lexL_tr : ∀ x y z : List Int, lexL y x = false → lexL z y = false → lexL z x = false
  | [], _, _, _, _ => lexL_nil _
  | _ :: _, [], _, h, _ => by cases h
  | _ :: _, _ :: _, [], _, h => by cases h
  | x :: r, y :: q, z :: s, h1, h2 => by
    rw [lexL_cons] at h1 h2 ⊢
    by_cases e1 : y = x
    · rw [if_pos e1] at h1
      by_cases e2 : z = y
      · rw [if_pos e2] at h2
        rw [if_pos (e2.trans e1)]
        exact lexL_tr r q s h1 h2
      · rw [if_neg e2] at h2
        rw [if_neg (fun w => e2 (w.trans e1.symm))]
        rw [decide_eq_false_iff_not] at h2 ⊢
        omega
    · rw [if_neg e1, decide_eq_false_iff_not] at h1
      by_cases e2 : z = y
      · rw [if_neg (fun w => e1 (e2.symm.trans w)), decide_eq_false_iff_not]
        omega
      · rw [if_neg e2, decide_eq_false_iff_not] at h2
        rw [if_neg (by omega), decide_eq_false_iff_not]
        omega
theorem lexL_eq : ∀ x y : List Int, lexL x y = false → lexL y x = false → x = y
  | [], [], _, _ => rfl
  | [], _ :: _, h, _ => by cases h
  | _ :: _, [], _, h => by cases h
  | x :: r, y :: q, h1, h2 => by
    rw [lexL_cons] at h1 h2
    by_cases e : x = y
    · rw [if_pos e] at h1; rw [if_pos e.symm] at h2
      rw [e, lexL_eq r q h1 h2]
    · rw [if_neg e, decide_eq_false_iff_not] at h1
      rw [if_neg (fun z => e z.symm), decide_eq_false_iff_not] at h2
      omega
/-- two rows in order with the same members, each once -/
abbrev SrtL (l : List (List Int)) : Prop := l.Pairwise fun x y => lexL y x = false
theorem srtL_eq : ∀ {l m : List (List Int)}, SrtL l → SrtL m → l.Perm m → l = m
  | [], m, _, _, p => by rw [List.nil_perm.mp p]
  | x :: l, m, h1, h2, p => by
    cases m with
    | nil => exact absurd p.symm (by simp)
    | cons y m =>
      have hx := List.pairwise_cons.mp h1
      have hy := List.pairwise_cons.mp h2
      have e : x = y := by
        have mx : x ∈ y :: m := p.mem_iff.mp List.mem_cons_self
        have my : y ∈ x :: l := p.mem_iff.mpr List.mem_cons_self
        rcases List.mem_cons.mp mx with z | z
        · exact z
        rcases List.mem_cons.mp my with w | w
        · exact w.symm
        exact lexL_eq _ _ (hy.1 x z) (hx.1 y w)
      subst e
      rw [srtL_eq hx.2 hy.2 (List.perm_cons x |>.mp p)]
theorem perm_of_mem {α : Type} [DecidableEq α] : ∀ {l m : List α}, l.Nodup → m.Nodup → (∀ x, x ∈ l ↔ x ∈ m) → l.Perm m
  | [], m, _, _, h => by
    cases m with
    | nil => exact List.Perm.refl _
    | cons y m => exact absurd ((h y).mpr List.mem_cons_self) (by simp)
  | x :: l, m, h1, h2, h => by
    have hx : x ∈ m := (h x).mp List.mem_cons_self
    have n1 := List.nodup_cons.mp h1
    refine List.Perm.trans (List.Perm.cons x ?_) (List.perm_cons_erase hx).symm
    refine perm_of_mem n1.2 (h2.erase x) fun y => ?_
    rw [h2.mem_erase_iff]
    constructor
    · intro hy
      exact ⟨fun e => n1.1 (e ▸ hy), (h y).mp (List.mem_cons_of_mem _ hy)⟩
    · rintro ⟨ne, hy⟩
      exact (List.mem_cons.mp ((h y).mpr hy)).resolve_left ne
section
variable {prog : Program} {w : World} {A : Around} {E : Value → Shared → Prop} {s : Shared} {Q : Bool → Shared → Prop}
theorem kat_intsL {b : Bool} {xs ys : List Value} {ns ms : List Int} (i : Nat) (hx : IntsAre xs ns) (hy : IntsAre ys ms) (hl : ns.length = ms.length) (h : Q (lexL ns ms) s) : PySem.W.KatLex prog w A b false Q (xs.zip ys) i s := by
  induction hx generalizing ys ms i with
  | nil =>
    cases hy with
    | nil => exact PySem.W.kat_nil h
    | cons q u hy => simp at hl
  | @cons p t xs ns hx ih =>
    cases hy with
    | nil => simp at hl
    | @cons q u ys ms hy =>
      have hl' : ns.length = ms.length := by simpa using hl
      refine PySem.W.kat_cons (wpAny_eqBool_int ?_)
      rw [lexL_cons] at h
      by_cases e : p = q
      · subst e
        rw [if_pos rfl] at h
        rw [beq_self_eq_true]
        exact PySem.W.kat_yes (ih (i + 1) hy hl' h)
      · rw [if_neg e] at h
        rw [show (p == q) = false from beq_eq_false_iff_ne.mpr e]
        exact PySem.W.kat_no (TS.oneLt_ints _ h)
theorem firstsL {h : Heap} : ∀ vs : List Value, (∀ v ∈ vs, ∃ ns : List Int, TS.TupInts h v ns ∧ 1 ≤ ns.length) → ∃ fs, PySem.W.KatTups h vs fs ∧ fs.length = vs.length ∧ ∀ f ∈ fs, ∃ n t, f = Value.int n t
  | [], _ => ⟨[], PySem.W.KatTups.nil, rfl, fun f hf => by cases hf⟩
  | v :: vs, x => by
    obtain ⟨fs, k, hl, hi⟩ := firstsL vs fun u hu => x u (List.mem_cons_of_mem _ hu)
    obtain ⟨ns, ⟨a, xs, rfl, ⟨o, ho, hc, n, hdt⟩, i⟩, hn⟩ := x v List.mem_cons_self
    cases q : xs.toList with
    | nil =>
      rw [q] at i
      have l := i.length
      rw [List.length_nil] at l
      omega
    | cons y ys =>
      obtain ⟨m, t, hy⟩ := i.all y (by rw [q]; exact List.mem_cons_self)
      refine ⟨y :: fs, PySem.W.KatTups.cons ho hc hdt ?_ k, by rw [List.length_cons, List.length_cons, hl], fun f hf => ?_⟩
      · have z := congrArg (fun l : List Value => l[0]?) q
        simpa using z
      · rcases List.mem_cons.mp hf with e | hf
        · exact ⟨m, t, e.trans hy⟩
        · exact hi f hf
end
section
variable {prog : Program} {w : World} {A : Around} {E : Value → Shared → Prop} {s : Shared}
open SrtO Srt PySem.W
theorem swo_L (k : Value → List Int) : Swo fun v u => lexL (k v) (k u) := ⟨fun x y h => lexL_asym _ _ h, fun x y z h1 h2 => lexL_tr _ _ _ h1 h2⟩
theorem cmp_L {vs : List Value} {k : Value → List Int} {d : Nat} (hp : ∀ v ∈ vs, TS.TupInts s.heap v (k v) ∧ (k v).length = d) : Cmp prog w A s (tuples' true) (fun p => p.1 ∈ vs) (lt2 fun v u => lexL (k v) (k u)) := by
  intro p q hm hm'
  obtain ⟨⟨a, xs, e1, ⟨o, ho, hc, n, hdt⟩, i⟩, l1⟩ := hp _ hm
  obtain ⟨⟨a', ys, e2, ⟨o', ho', hc', n', hdt'⟩, i'⟩, l2⟩ := hp _ hm'
  show wpAny _ _ (keyLt' (tuples' true) p.1 q.1) (fun r s' => s' = s ∧ r = lexL (k p.1) (k q.1)) _ s
  generalize hk1 : k p.1 = ns at *
  generalize hk2 : k q.1 = ms at *
  rw [e1, e2]
  refine PySem.W.kat_lt ho hdt ho' hdt' ?_
  have sz : decide (xs.size < ys.size) = false := by
    have z1 := i.length
    have z2 := i'.length
    rw [Array.length_toList] at z1 z2
    exact decide_eq_false (by omega)
  rw [sz]
  exact kat_intsL 0 i i' (by omega) ⟨rfl, rfl⟩
theorem sortable_L {a : Addr} {vs : List Value} {k : Value → List Int} {d : Nat} (hd : 1 ≤ d) (h0 : 0 < vs.length) (hp : ∀ v ∈ vs, TS.TupInts s.heap v (k v) ∧ (k v).length = d) (ha : ∀ o, s.heap.get? a = some o → o.cls ≠ .type "tuple") : SortableO prog w A s a vs fun v u => lexL (k v) (k u) := by
  intro h' keep
  have hp' : ∀ v ∈ vs, TS.TupInts h' v (k v) ∧ (k v).length = d := fun v hm => ⟨(hp v hm).1.keeps fun b o e c => keep b o (fun z => ha o (z ▸ e) c) e, (hp v hm).2⟩
  obtain ⟨fs, h1, h2, h3⟩ := firstsL vs fun v hm => ⟨_, (hp' v hm).1, by rw [(hp' v hm).2]; exact hd⟩
  refine ⟨tuples' true, fun Q E hq => ?_, cmp_L (s := { s with heap := h' }) hp'⟩
  refine PySem.W.kat_kind (T := .type "int") h1 (by omega) (fun f hm => ?_) (by rfl) ?_
  · obtain ⟨x, t, rfl⟩ := h3 f hm
    exact PySem.W.Looks.now
  · have ne : (Value.type "int" != Value.type "tuple") = true := by first | rfl | decide +kernel
    rw [ne]
    exact hq
end
section
variable {X : Cx}
def rSortTL (K : PySem.W.Frag) : List V → Hp → VK → Prop := fun vs H Q => ∃ (a : Addr) (rs : List Addr) (xs : List (List Int)) (d : Nat), vs = [V.ref a] ∧ SqL K H a (rs.map V.ref) ∧ TR H rs xs ∧ 1 ≤ d ∧ (∀ x ∈ xs, x.length = d) ∧
  ∀ (rs' : List Addr) (ys : List (List Int)) (p : Addr), ys.Perm xs → SrtL ys → TR H rs' ys → H p = none → Q (.ref p) (upd H p (.lst (rs'.map V.ref)))
theorem TR.of_list {H : Hp} (k : V → List Int) : ∀ (rs : List Addr), (∀ r ∈ rs, H r = some (.tup ((k (.ref r)).map V.int))) → TR H rs (rs.map fun r => k (.ref r))
  | [], _ => trivial
  | r :: rs, h => ⟨h r List.mem_cons_self, TR.of_list k rs fun r' m => h r' (List.mem_cons_of_mem _ m)⟩
theorem tr_eq {H : Hp} (k : V → List Int) : ∀ {rs : List Addr} {xs : List (List Int)}, TR H rs xs → (∀ r x, H r = some (.tup (x.map V.int)) → k (.ref r) = x) → xs = rs.map fun r => k (.ref r)
  | [], [], _, _ => rfl
  | r :: rs, x :: xs, h, hk => by
    rw [List.map_cons, ← tr_eq k h.2 hk, hk r x h.1]
  | [], _ :: _, h, _ => h.elim
  | _ :: _, [], h, _ => h.elim
open SrtO in
theorem cr_sortTL : CallR X (.builtin "sorted") (rSortTL X.K) := by
  intro pins s σ H vs us Q I r h
  obtain ⟨a, rs, xs, d, rfl, hs, hT, hd, hlen, q⟩ := h
  obtain ⟨its, rv, hl, hz⟩ := I.list hs
  rw [Vals.ref1 r]
  obtain ⟨e1, e2⟩ := refs_back rv fun x m => by
    obtain ⟨t, _, e⟩ := List.mem_map.mp m
    exact ⟨t, e.symm⟩
  let k : V → List Int := fun v => TS.intsOf s.heap (match v with | .ref t => .ref t | _ => .none)
  have tup : ∀ t (x : List Int), H t = some (.tup (x.map V.int)) → TS.TupInts s.heap (.ref t) x := fun t x ht => by
    obtain ⟨_, its2, r2, o, ho, hc, n, hdt⟩ := I.hok _ _ ht
    exact ⟨t, _, rfl, ⟨o, ho, hc, n, hdt⟩, Vals.ints r2⟩
  have hk : ∀ t (x : List Int), H t = some (.tup (x.map V.int)) → k (.ref t) = x := fun t x ht => (tup t x ht).ints
  have mem : ∀ t, V.ref t ∈ rs.map V.ref → ∃ x : List Int, x.length = d ∧ H t = some (.tup (x.map V.int)) := fun t m => by
    obtain ⟨t', m', e⟩ := List.mem_map.mp m
    cases e
    obtain ⟨i, hi, ei⟩ := List.getElem_of_mem m'
    obtain ⟨x, hx, ht⟩ := hT.get (i := i) (by rw [List.getElem?_eq_getElem hi, ei])
    exact ⟨x, hlen x (List.mem_of_getElem? hx), ht⟩
  have val : ∀ v ∈ its, ∃ (t : Addr) (x : List Int), v = Value.ref t ∧ t ∈ rs ∧ x.length = d ∧ H t = some (.tup (x.map V.int)) := fun v hv => by
    obtain ⟨t, rfl⟩ := e2 v hv
    have hm : V.ref t ∈ rs.map V.ref := by rw [e1]; exact List.mem_map.mpr ⟨_, hv, rfl⟩
    obtain ⟨x, h1, h2⟩ := mem t hm
    refine ⟨t, x, rfl, ?_, h1, h2⟩
    obtain ⟨t', m', e⟩ := List.mem_map.mp hm
    cases e
    exact m'
  refine sorted_ord (swo_L fun u => k (backV u)) hl.isList (by rw [← rv.length]; exact hz) (fun h2 h₁ b hb kk => ?_) fun out hs' hb => ?_
  · refine sortable_L (s := { s with heap := h₁ }) hd (by omega) (fun v hv => ?_) fun o e => ?_
    · obtain ⟨t, x, rfl, _, hx, ht⟩ := val v hv
      have ek : k (backV (.ref t)) = x := hk t x ht
      show TS.TupInts h₁ (.ref t) (k (backV (.ref t))) ∧ (k (backV (.ref t))).length = d
      rw [ek]
      exact ⟨(tup t x ht).keeps fun b o e _ => (kk b o e).2, hx⟩
    · have e' := e.symm.trans hb
      cases e'
      intro c
      exact absurd (Value.type.inj c) (by decide)
  · have h3 : ∀ u ∈ out, ∃ a, u = Value.ref a := fun u hu => by
      obtain ⟨t, x, e, _⟩ := val u (hb.perm.mem_iff.mp hu)
      exact ⟨t, e⟩
    obtain ⟨n, hn⟩ := sortedAll_at s.heap its out.toArray
    let rs' : List Addr := out.map fun u => match u with | .ref t => t | _ => 0
    have er : out.map backV = rs'.map V.ref := by
      rw [List.map_map]
      refine List.map_congr_left fun u hu => ?_
      obtain ⟨t, e⟩ := h3 u hu
      rw [e]
      rfl
    have tr : ∀ t ∈ rs', H t = some (.tup ((k (.ref t)).map V.int)) := fun t ht => by
      obtain ⟨u, hu, e⟩ := List.mem_map.mp ht
      obtain ⟨t', x, rfl, _, _, h5⟩ := val u (hb.perm.mem_iff.mp hu)
      have e' : t' = t := e
      subst e'
      rw [hk t' x h5]
      exact h5
    have ei : its.map (fun u => match u with | .ref t => t | _ => 0) = rs := by
      have z : (its.map backV).map (fun v => match v with | V.ref t => t | _ => 0) = (rs.map V.ref).map (fun v => match v with | V.ref t => t | _ => 0) := by rw [e1]
      rw [List.map_map, List.map_map] at z
      have z2 : rs.map ((fun v => match v with | V.ref t => t | _ => 0) ∘ V.ref) = rs := List.map_id rs
      rw [z2] at z
      rw [← z]
      refine List.map_congr_left fun u hu => ?_
      obtain ⟨t, _, e, _⟩ := val u hu
      rw [e]
      rfl
    have pm : (rs'.map fun r => k (.ref r)).Perm xs := by
      rw [tr_eq k hT fun r x h => hk r x h, ← ei]
      exact (hb.perm.map _).map _
    have sr : SrtL (rs'.map fun r => k (.ref r)) := by
      have z := hs'
      have e5 : (rs'.map fun r => k (.ref r)) = out.map fun u => k (backV u) := by
        rw [List.map_map]
        refine List.map_congr_left fun u hu => ?_
        obtain ⟨t, e⟩ := h3 u hu
        rw [e]
        rfl
      rw [e5]
      exact List.pairwise_map.mpr z
    have hsz : s.heap.objs.size ≤ s.heap.objs.size + 1 := Nat.le_succ _
    refine ⟨.ref (s.heap.objs.size + 1), upd H (s.heap.objs.size + 1) (.lst (rs'.map V.ref)), I.laid (t' := s.toks) (fun b o e => sortedAll_old e) hsz ⟨?_, out, n, ?_, hn⟩, rfl, q rs' _ _ pm sr (TR.of_list k rs' tr) (I.hok.fresh hsz)⟩
    · rw [List.length_map, List.length_map, hb.perm.length_eq, ← rv.length]
      exact hz
    · rw [← er]
      exact vals_back h3
theorem cr_sortTLK (K : PySem.W.Frag) (hK : X.K = K) : CallR X (.builtin "sorted") (rSortTL K) := by subst hK; exact cr_sortTL
end
end JF

/-! ### enumerate of a tuple -/
namespace JF
open PySem PySem.Spec PyProof.Rows L2
open AutoSeq1 in
theorem meets_enum_newT (l : Addr) (items : Array Value) (n : Nat) (dct : Option Addr) (sl : Array (Option Value)) :
    Meets (Builtin.«enumerate.__new__» ⟨[.type "enumerate", .ref l], []⟩) (fun _ R s => s.heap.get? l = some { cls := .type "tuple", dict := dct, data := .seq items n, slots := sl } ∧
      R (.ok (.ret (.ref (s.heap.push { cls := .type "tuple_iterator", data := .fields #[.ref l, .int 0 0] }).objs.size)))
        { s with heap := (s.heap.push { cls := .type "tuple_iterator", data := .fields #[.ref l, .int 0 0] }).push { cls := .type "enumerate", data := .fields #[.none, .bool false, .ref s.heap.objs.size, rawInt 0, .none, .none] } }) :=
  .of_wp fun prog w A R s h => by
    obtain ⟨hp, g, d, tk, os⟩ := s
    obtain ⟨hl, h⟩ := h
    have hsub := sub_enumerate
    have hT : Heap.IsTuple (Shared.heap ⟨hp, g, d, tk, os⟩) l items := ⟨_, hl, rfl, n, rfl⟩
    wp_walk using wpAny_loadPart' hl
    refine wpAny_stack_any fun st => wpAny_pure ?_
    split
    · rename_i c _ _ _ _ _
      cases (c == Value.type "enumerate")
      all_goals
        wp_walk using wpAny_loadPart' hl, wpAny_pyIter_tuple hT
        exact ⟨_, rfl, h⟩
    · wp_walk using wpAny_loadPart' hl, wpAny_pyIter_tuple hT
      exact ⟨_, rfl, h⟩
theorem call_enumT {prog : Program} {w : World} {A : Around} {E : Value → Shared → Prop} {s : Shared} {l : Addr} {items : Array Value} {Q : Value → Shared → Prop} (hT : s.heap.IsTuple l items)
    (h : ∀ h', IsEnum h' (s.heap.objs.size + 1) s.heap.objs.size 0 .none → h'.IsTupleIter s.heap.objs.size l 0 → (∀ b o, s.heap.get? b = some o → h'.get? b = some o) → Q (.ref (s.heap.objs.size + 1)) { s with heap := h' }) :
    wpAny (model prog w) A (call (.type "enumerate") [.ref l]) Q E s := by
  obtain ⟨⟨c, dct, dt, sl⟩, hl, hc, n, hd⟩ := hT
  replace hc : c = .type "tuple" := hc
  replace hd : dt = .seq items n := hd
  subst hc hd
  refine callType_new F.called_enumerate (by decide) (F.typeCall_enumerate_1 _) (F.newCall_enumerate_1 _) (fun obj => F.args_object_init_2 obj _) F.entry_enumerate_new (meets_enum_newT l items n dct sl) ⟨hl, ?_⟩
  generalize hg : s.heap.push { cls := .type "tuple_iterator", data := .fields #[.ref l, .int 0 0] } = g1
  have hz : g1.objs.size = s.heap.objs.size + 1 := by rw [← hg]; exact Heap.size_push ..
  have g0 : g1.get? s.heap.objs.size = some { cls := .type "tuple_iterator", data := .fields #[.ref l, .int 0 0] } := by rw [← hg]; exact Heap.get?_push_size _ rfl
  have gk : ∀ b o, s.heap.get? b = some o → g1.get? b = some o := fun b o x => by rw [← hg]; exact Heap.get?_push_of_some _ x
  rw [hz]
  have he : IsEnum (g1.push { cls := .type "enumerate", data := .fields #[.none, .bool false, .ref s.heap.objs.size, rawInt 0, .none, .none] }) (s.heap.objs.size + 1) s.heap.objs.size 0 .none := by
    have z := Heap.get?_push_size g1 (o := { cls := .type "enumerate", data := .fields #[.none, .bool false, .ref s.heap.objs.size, rawInt 0, .none, .none] }) rfl
    rw [hz] at z; exact z
  exact ⟨⟨_, he, rfl⟩, h _ he ⟨_, Heap.get?_push_of_some _ g0, rfl, rfl⟩ fun b o x => Heap.get?_push_of_some _ (gk b o x)⟩
def ItET (a : Addr) : It :=
  ⟨fun i H => ∃ (xs : List V) (x : V), H a = some (.tup xs) ∧ xs[i]? = some x, fun i H v H' => ∃ T x, v = .ref T ∧ H T = none ∧ H' = upd H T (.tup [.int (i : Nat), x]) ∧ ∀ xs, H a = some (.tup xs) → xs[i]? = some x, fun i H => ∃ xs : List V, H a = some (.tup xs) ∧ i = xs.length⟩
theorem turn_enumT {P : Program} {w : World} {K : PySem.W.Frag} {elts : List Expr} {kk : Nat} {tpos : Pos} (a e it : Addr) (hne : e ≠ it) :
    Turn P w K (.Tuple elts kk tpos) (ItET a) [e, it] e (fun i h => (∃ old, IsEnum h e it ((i : Nat) : Int) old) ∧ h.IsTupleIter it a i) where
  mem := by simp
  obj := fun i h st b hb => by
    obtain ⟨⟨old, he⟩, o, ho, hc, hd⟩ := st
    have two : b = e ∨ b = it := by simpa using hb
    rcases two with rfl | rfl
    · exact ⟨_, he, fun v q => nomatch q⟩
    · exact ⟨o, ho, fun v q => by rw [hd] at q; cases q⟩
  keep := fun i h h' st k => by
    obtain ⟨⟨old, he⟩, o, ho, hc, hd⟩ := st
    exact ⟨⟨old, k e (by simp) _ he⟩, o, k it (by simp) _ ho, hc, hd⟩
  item := by
    intro X eP ew eK hc i pins s σ H E I hf st hg
    subst eP ew eK
    obtain ⟨⟨old, he⟩, hit⟩ := st
    obtain ⟨xs, x, hq, hx⟩ := hg
    obtain ⟨hz, its, rv, ht⟩ := (show ObjOk X.prog X.w H s.heap a (.tup xs) from I.hok a _ hq)
    have htu : s.heap.IsTuple a its.toArray := ht
    obtain ⟨u, hu, ru⟩ := rv.get hx
    have el := Heap.lt_size he
    have il : it < s.heap.objs.size := by obtain ⟨_, q, _⟩ := hit; exact Heap.lt_size q
    have eN : e ≠ a := fun z => by
      have n1 := (hf e (by simp)).1
      rw [z, hq] at n1; cases n1
    have iN : it ≠ a := fun z => by
      have n1 := (hf it (by simp)).1
      rw [z, hq] at n1; cases n1
    have ilt : i < its.toArray.size := by
      have := (List.getElem?_eq_some_iff.mp hu).1
      simpa using this
    refine wpAny_pyNext_enum_itemD (Draws.tuple (prog := X.prog) (w := X.w) (A := X.A.in1) (show X.A.in1.handled = none from I.ok.hd hc) it a iN.symm its.toArray) he ⟨hit, htu⟩ ilt hne (by simp [hne, eN]) fun v g tk m ho hit2 hT hsz hk => ?_
    have ev : v = u := by
      have m' : its.toArray[i]? = some v := m
      rw [List.getElem?_toArray, hu] at m'
      exact (Option.some.inj m').symm
    subst ev
    refine ⟨_, rfl, wpAny_letOwnedTupleGo_enum (s := { s with heap := g, toks := tk + 1 }) ho fun g2 he2 sb => ?_⟩
    have hT2 : g2.get? s.heap.objs.size = some { cls := .type "tuple", data := .seq #[.int i tk, v] } := (sb.2 _ (Nat.ne_of_gt el)).trans hT
    have hob : ObjOk X.prog X.w (upd H s.heap.objs.size (.tup [.int (i : Nat), x])) g2 s.heap.objs.size (.tup [.int (i : Nat), x]) :=
      ⟨by show 2 ≤ sizeLine; decide, [.int i tk, v], .cons ⟨_, rfl⟩ (.cons ru .nil), _, hT2, rfl, _, rfl⟩
    have kk : ∀ b o, b ∉ [e, it] → s.heap.get? b = some o → g2.get? b = some o := fun b o hb q => by
      simp only [List.mem_cons, List.not_mem_nil, or_false, not_or] at hb
      exact (sb.2 b hb.1).trans (hk b o hb.1 hb.2 q)
    refine ⟨.ref s.heap.objs.size, _, I.turnedNew (t' := tk + 1) kk hf (Nat.le_refl _) hob, rfl, ⟨_, x, rfl, I.hok.fresh (Nat.le_refl _), rfl, fun ys hy => ?_⟩, ⟨⟨v, ?_⟩, ?_⟩, fun b hb => ?_⟩
    · rw [hq] at hy; cases hy; exact hx
    · have q : ((i + 1 : Nat) : Int) = (i : Int) + 1 := by omega
      rw [q]; exact he2
    · obtain ⟨o, q, r⟩ := hit2.1
      exact ⟨o, (sb.2 it (Ne.symm hne)).trans q, r⟩
    · have lt : b < s.heap.objs.size := by
        have two : b = e ∨ b = it := by simpa using hb
        rcases two with rfl | rfl
        · exact el
        · exact il
      rw [upd_ne (Nat.ne_of_lt lt)]
      exact (hf b hb).1
  done := by
    intro X eP ew eK hc i pins s σ H E I hf st hg
    subst eP ew eK
    obtain ⟨⟨old, he⟩, hit⟩ := st
    obtain ⟨xs, hq, rfl⟩ := hg
    obtain ⟨hz, its, rv, ht⟩ := (show ObjOk X.prog X.w H s.heap a (.tup xs) from I.hok a _ hq)
    have htu : s.heap.IsTuple a its.toArray := ht
    obtain ⟨c0, c1, c2, c3, c4, c5⟩ := hf it (by simp)
    have iN : it ≠ a := fun z => by rw [z, hq] at c0; cases c0
    have es : its.toArray.size = xs.length := by rw [List.size_toArray, rv.length]
    refine wpAny_pyNext_enum_endD (Draws.tuple (prog := X.prog) (w := X.w) (A := X.A.in1) (show X.A.in1.handled = none from I.ok.hd hc) it a iN.symm its.toArray) he ?_ fun g eb => ⟨rfl, I.turned (t' := s.toks) (fun b o hb q => eb b o hb q) c0 c1 c3 c4 c5⟩
    rw [es]
    exact ⟨hit, htu⟩
  self := fun A i s Q E sg => let ⟨⟨_, he⟩, _⟩ := sg; wpAny_pyIter_enum he
def iEnumT (ta : TA) : TI := fun σ H R => ta σ H fun vs H1 => ∃ a xs, vs = [.ref a] ∧ H1 a = some (.tup xs) ∧ R (ItET a) H1
theorem pi_enumT {X : Cx} {e : Expr} {ta : TA} {p pos tpos : Pos} {elts : List Expr} {kk : Nat} (hg : Gl X "enumerate") (hm : X.mg "enumerate" = none) (ha : PA X [e] ta) (hs : starEach [e] X.env = [(false, eval e X.env)] := by rfl) :
    PI X (.Tuple elts kk tpos) (.Call (.Name "enumerate" p) [e] [] pos) (iEnumT ta) := by
  refine ⟨fun pins s σ H R I hh => ?_⟩
  refine Call_ (ld_blt I hg hm boot_enumerate (PyProof.Rows.callWith_type1 (thn (ha.run pos pins s σ H _ I hh) fun _ s1 ⟨_, H1, I1, r1, q1⟩ => ?_) hs rfl))
  obtain ⟨a, xs, rfl, hq, q⟩ := q1
  obtain rfl := Vals.ref1 r1
  obtain ⟨hz, its, rv, ht⟩ := (show ObjOk X.prog X.w H1 s1.heap a (.tup xs) from I1.hok a _ hq)
  have htu : s1.heap.IsTuple a its.toArray := ht
  refine call_enumT htu fun g he hit hk => wpAny_pyIter_enum he ?_
  have I2 : Inv X pins σ H1 { s1 with heap := g } := I1.kept (t' := s1.toks) hk
  refine ⟨s1.heap.objs.size + 1, [s1.heap.objs.size + 1, s1.heap.objs.size], _, _, H1, rfl, I2, turn_enumT a (s1.heap.objs.size + 1) s1.heap.objs.size (Nat.succ_ne_self _), ⟨⟨.none, he⟩, hit⟩, fun b hb => ?_, q⟩
  have le : s1.heap.objs.size ≤ b := by
    simp only [List.mem_cons, List.not_mem_nil, or_false] at hb
    rcases hb with rfl | rfl
    · exact Nat.le_add_right _ _
    · exact Nat.le_refl _
  exact I1.fpOk le (I1.hok.fresh le)
theorem walk_enumT {a : Addr} {xs : List V} : Walk (ItET a) xs.length (fun H => H a = some (.tup xs)) (YPair (fun i => some (.int (i : Nat))) (fun i => xs[i]?)) :=
  ⟨fun i H hi h => ⟨xs, _, h, List.getElem?_eq_getElem hi⟩, fun H h => ⟨xs, h, rfl⟩, fun i H x H' hi h ⟨T, y, e, hT, eH, f⟩ => ⟨T, _, y, e, hT, eH, rfl, f xs h⟩⟩
theorem rd_iET {σ : L2.St} {H : Hp} {tr : TA} {R : It → Hp → Prop} (h : tr σ H fun vs H1 => ∃ a xs, vs = [.ref a] ∧ H1 a = some (.tup xs) ∧ R (ItET a) H1) : iEnumT tr σ H R := h
end JF

/-! ### walks that the hand layer lacks: zip over lists and tuples alike, enumerate of a text -/
namespace JF
open PySem PySem.Spec PyProof.Rows L2
/-- a tuple, or a list -/
def sqB (t : Bool) (K : PySem.W.Frag) (H : Hp) (a : Addr) (xs : List V) : Prop := match t with
  | true => SqT K H a xs
  | false => SqL K H a xs
def isB (t : Bool) (h : Heap) (a : Addr) (its : Array Value) : Prop := match t with
  | true => h.IsTuple a its
  | false => h.IsList a its
def itB (t : Bool) (h : Heap) (it a : Addr) (i : Nat) : Prop := match t with
  | true => h.IsTupleIter it a i
  | false => h.IsListIter it a i
def obB (t : Bool) (a : Addr) : Obj := match t with
  | true => { cls := .type "tuple_iterator", data := .fields #[.ref a, .int 0 0] }
  | false => { cls := .type "list_iterator", data := .fields #[.ref a, .int 0 0] }
theorem itB.obj {t : Bool} {h : Heap} {it a : Addr} {i : Nat} (s : itB t h it a i) : ∃ o vs, h.get? it = some o ∧ o.data = .fields vs := by
  cases t with
  | true => obtain ⟨o, e, _, d⟩ := s; exact ⟨o, _, e, d⟩
  | false => obtain ⟨o, e, _, d⟩ := s; exact ⟨o, _, e, d⟩
theorem itB.at {t : Bool} {h h' : Heap} {it a : Addr} {i : Nat} (s : itB t h it a i) (k : ∀ o, h.get? it = some o → h'.get? it = some o) : itB t h' it a i := by
  cases t with
  | true => exact Heap.IsTupleIter.at s k
  | false => exact Heap.IsListIter.at s k
theorem isB.at {t : Bool} {h h' : Heap} {a : Addr} {its : Array Value} (s : isB t h a its) (k : ∀ o, h.get? a = some o → h'.get? a = some o) : isB t h' a its := by
  cases t with
  | true => exact Heap.IsTuple.at s k
  | false => exact Heap.IsList.at s k
theorem isB.lt {t : Bool} {h : Heap} {a : Addr} {its : Array Value} (s : isB t h a its) : a < h.objs.size := by
  cases t with
  | true => obtain ⟨o, e, _⟩ := s; exact Heap.lt_size e
  | false => obtain ⟨o, e, _⟩ := s; exact Heap.lt_size e
theorem isB.ne {t u : Bool} {h : Heap} {a b it : Addr} {i : Nat} {its : Array Value} (p : isB t h a its) (s : itB u h it b i) : a ≠ it := fun q => by
  obtain ⟨o', vs, e', d'⟩ := s.obj
  rw [← q] at e'
  cases t with
  | true => obtain ⟨o, e, _, n, d⟩ := p; rw [e] at e'; cases e'; rw [d] at d'; cases d'
  | false => obtain ⟨o, e, _, n, d⟩ := p; rw [e] at e'; cases e'; rw [d] at d'; cases d'
theorem drawsB {P : Program} {w : World} {A : Around} (hh : A.handled = none) (t : Bool) (it a : Addr) (hne : a ≠ it) (its : Array Value) :
    Draws P w A it [it, a] its.size (fun i v => its[i]? = some v) (fun i h => itB t h it a i ∧ isB t h a its) := by
  cases t with
  | true => exact Draws.tuple hh it a hne its
  | false => exact Draws.list hh it a hne its
theorem beginsB (t : Bool) (a : Addr) (its : Array Value) : Begins (.ref a) (obB t a) fun h => isB t h a its := by
  cases t with
  | true => exact begins_tuple a its
  | false => exact begins_list a its
theorem itB0 {t : Bool} {h : Heap} {it a : Addr} (e : h.get? it = some (obB t a)) : itB t h it a 0 := by
  cases t with
  | true => exact ⟨_, e, rfl, rfl⟩
  | false => exact ⟨_, e, rfl, rfl⟩
theorem sqB_inv {X : Cx} {pins : List (Addr × Obj)} {σ : L2.St} {H : Hp} {s : Shared} {t : Bool} {a : Addr} {xs : List V} (I : Inv X pins σ H s) (h : sqB t X.K H a xs) : ∃ its : List Value, Vals xs its ∧ isB t s.heap a its.toArray := by
  cases t with
  | true => obtain ⟨its, r, p, _⟩ := I.tuple h; exact ⟨its, r, p⟩
  | false => obtain ⟨its, r, p, _⟩ := I.list h; exact ⟨its, r, p.isList⟩
theorem sqB_inj {X : Cx} {pins : List (Addr × Obj)} {σ : L2.St} {H : Hp} {s : Shared} {t : Bool} {a : Addr} {xs ys : List V} (I : Inv X pins σ H s) (h : sqB t X.K H a xs) (h' : sqB t X.K H a ys) : xs = ys := by
  cases t with
  | true => exact I.tuple_inj h h'
  | false => exact I.list_inj h h'
/-- the things at a and b, in step, each turn a new pair -/
def ItzQ (K : PySem.W.Frag) (t u : Bool) (a b : Addr) : It :=
  ⟨fun i H => ∃ (xs ys : List V) (x y : V), sqB t K H a xs ∧ sqB u K H b ys ∧ xs[i]? = some x ∧ ys[i]? = some y,
    fun i H v H' => ∃ T x y, v = .ref T ∧ H T = none ∧ H' = upd H T (.tup [x, y]) ∧ (∀ xs, sqB t K H a xs → xs[i]? = some x) ∧ ∀ ys, sqB u K H b ys → ys[i]? = some y,
    fun i H => ∃ xs ys : List V, sqB t K H a xs ∧ sqB u K H b ys ∧ i ≤ xs.length ∧ i ≤ ys.length ∧ (xs.length = i ∨ ys.length = i)⟩
theorem turn_zipQ {P : Program} {w : World} {K : PySem.W.Frag} {elts : List Expr} {kk : Nat} {tpos : Pos} {t u : Bool} {a b z TI TO i1 i2 : Addr} (D : ZipSep2 z TI TO i1 i2 [i1, a] [i2, b]) :
    Turn P w K (.Tuple elts kk tpos) (ItzQ K t u a b) [z, TI, TO, i1, i2] z (fun i h => IsZip h z TI TO .none ∧ IsPair h TI (.ref i1) (.ref i2) ∧ (∃ x y, IsPair h TO x y) ∧ itB t h i1 a i ∧ itB u h i2 b i) where
  mem := by simp
  obj := fun i h st c hc => by
    obtain ⟨hz, hI, ⟨x, y, hO⟩, h1, h2⟩ := st
    obtain ⟨o1, v1, e1, d1⟩ := h1.obj
    obtain ⟨o2, v2, e2, d2⟩ := h2.obj
    have five : c = z ∨ c = TI ∨ c = TO ∨ c = i1 ∨ c = i2 := by simpa using hc
    rcases five with rfl | rfl | rfl | rfl | rfl
    · exact ⟨_, hz, fun v q => nomatch q⟩
    · exact ⟨_, hI, fun v q => nomatch q⟩
    · exact ⟨_, hO, fun v q => nomatch q⟩
    · exact ⟨o1, e1, fun v q => by rw [d1] at q; cases q⟩
    · exact ⟨o2, e2, fun v q => by rw [d2] at q; cases q⟩
  keep := fun i h h' st k => by
    obtain ⟨hz, hI, ⟨x, y, hO⟩, h1, h2⟩ := st
    exact ⟨k _ (by simp) _ hz, k _ (by simp) _ hI, ⟨x, y, k _ (by simp) _ hO⟩, h1.at fun o => k _ (by simp) o, h2.at fun o => k _ (by simp) o⟩
  item := by
    intro X eP ew eK hc i pins s σ H E I hf st hg
    subst eP ew eK
    obtain ⟨hz, hI, ⟨x0, y0, hO⟩, h1, h2⟩ := st
    obtain ⟨xs, ys, x, y, qa, qb, hx, hy⟩ := hg
    obtain ⟨its, rv, p⟩ := sqB_inv I qa
    obtain ⟨its2, rv2, p2⟩ := sqB_inv I qb
    obtain ⟨v, hv, ru⟩ := rv.get hx
    obtain ⟨v2, hv2, ru2⟩ := rv2.get hy
    have l1 : i < its.toArray.size := by rw [List.size_toArray]; exact (List.getElem?_eq_some_iff.mp hv).1
    have l2 : i < its2.toArray.size := by rw [List.size_toArray]; exact (List.getElem?_eq_some_iff.mp hv2).1
    have zl := Heap.lt_size hz
    obtain ⟨o1, _, e1, _⟩ := h1.obj
    obtain ⟨o2, _, e2, _⟩ := h2.obj
    have na : a ≠ i1 := p.ne h1
    have nb : b ≠ i2 := p2.ne h2
    refine wpAny_pyNext_zipD2_item D (drawsB (P := X.prog) (w := X.w) (A := X.A.in1) (show X.A.in1.handled = none from I.ok.hd hc) t i1 a na its.toArray) (drawsB (P := X.prog) (w := X.w) (A := X.A.in1) (show X.A.in1.handled = none from I.ok.hd hc) u i2 b nb its2.toArray) hz hI hO ⟨h1, p⟩ ⟨h2, p2⟩ l1 l2 fun w1 w2 g tk m1 m2 z' tO d1 d2 hT hsz hk => ?_
    have ew1 : w1 = v := by
      have q : its.toArray[i]? = some v := by simpa using hv
      exact Option.some.inj (m1.symm.trans q)
    have ew2 : w2 = v2 := by
      have q : its2.toArray[i]? = some v2 := by simpa using hv2
      exact Option.some.inj (m2.symm.trans q)
    subst ew1 ew2
    refine ⟨_, rfl, wpAny_letOwnedTupleGo_zip (s := { s with heap := g, toks := tk }) z' fun g2 z2 sb => ?_⟩
    have hT2 : g2.get? s.heap.objs.size = some { cls := .type "tuple", data := .seq #[w1, w2] } := (sb.2 _ (Nat.ne_of_gt zl)).trans hT
    have hob : ObjOk X.prog X.w (upd H s.heap.objs.size (.tup [x, y])) g2 s.heap.objs.size (.tup [x, y]) :=
      ⟨by show 2 ≤ sizeLine; decide, [w1, w2], .cons ru (.cons ru2 .nil), _, hT2, rfl, _, rfl⟩
    have kk : ∀ c o, c ∉ [z, TI, TO, i1, i2] → s.heap.get? c = some o → g2.get? c = some o := fun c o hb e => by
      simp only [List.mem_cons, List.not_mem_nil, or_false, not_or] at hb
      exact (sb.2 c hb.1).trans (hk c o hb.1 hb.2.2.1 hb.2.2.2.1 hb.2.2.2.2 e)
    refine ⟨.ref s.heap.objs.size, _, I.turnedNew (t' := tk) kk hf (Nat.le_refl _) hob, rfl, ⟨_, x, y, rfl, I.hok.fresh (Nat.le_refl _), rfl, fun l hl => by rw [sqB_inj I hl qa]; exact hx, fun l hl => by rw [sqB_inj I hl qb]; exact hy⟩, ⟨z2, ?_, ⟨w1, w2, ?_⟩, ?_, ?_⟩, fun c hcm => ?_⟩
    · exact Eq.trans (sb.2 _ D.TIz) (hk _ _ D.TIz D.TITO D.TIi1 D.TIi2 hI)
    · exact (sb.2 _ D.TOz).trans tO
    · exact d1.1.at fun o q => (sb.2 _ (Ne.symm D.zi1)).trans q
    · exact d2.1.at fun o q => (sb.2 _ (Ne.symm D.zi2)).trans q
    · have lt : c < s.heap.objs.size := by
        have five : c = z ∨ c = TI ∨ c = TO ∨ c = i1 ∨ c = i2 := by simpa using hcm
        rcases five with rfl | rfl | rfl | rfl | rfl
        · exact zl
        · exact Heap.lt_size hI
        · exact Heap.lt_size hO
        · exact Heap.lt_size e1
        · exact Heap.lt_size e2
      rw [upd_ne (Nat.ne_of_lt lt)]
      exact (hf c hcm).1
  done := by
    intro X eP ew eK hc i pins s σ H E I hf st hg
    subst eP ew eK
    obtain ⟨hz, hI, ⟨x0, y0, hO⟩, h1, h2⟩ := st
    obtain ⟨xs, ys, qa, qb, lx, ly, hend⟩ := hg
    obtain ⟨its, rv, p⟩ := sqB_inv I qa
    obtain ⟨its2, rv2, p2⟩ := sqB_inv I qb
    have l1 := rv.length
    have l2 := rv2.length
    have na : a ≠ i1 := p.ne h1
    have nb : b ≠ i2 := p2.ne h2
    exact wpAny_pyNext_zipD2_end D (drawsB (P := X.prog) (w := X.w) (A := X.A.in1) (show X.A.in1.handled = none from I.ok.hd hc) t i1 a na its.toArray) (drawsB (P := X.prog) (w := X.w) (A := X.A.in1) (show X.A.in1.handled = none from I.ok.hd hc) u i2 b nb its2.toArray) hz hI hO ⟨h1, p⟩ ⟨h2, p2⟩ (by simp; omega) (by simp; omega) (by simp; omega) fun g tk hk =>
      ⟨rfl, I.turnedL (t' := tk) (ch := [z, TI, TO, i1, i2]) (fun c o hb q => by
        simp only [List.mem_cons, List.not_mem_nil, or_false, not_or] at hb
        exact hk c o hb.1 hb.2.2.1 hb.2.2.2.1 hb.2.2.2.2 q) hf⟩
  self := fun A i s Q E sg => wpAny_pyIter_zip sg.1
theorem sep2 (I l1 l2 : Nat) (h1 : l1 < I) (h2 : l2 < I) : ZipSep2 (I + 4) (I + 2) (I + 3) I (I + 1) [I, l1] [I + 1, l2] := by
  have n0 : ∀ {x y : Nat}, x ≠ y → ¬ ((x : Addr) = y) := fun h => h
  constructor
  all_goals first
    | exact List.mem_cons_self
    | (intro q; rcases List.mem_cons.mp q with q | q
       · revert q; refine n0 ?_; omega
       · rw [List.mem_singleton] at q; revert q; refine n0 ?_; omega)
    | (refine n0 ?_; omega)
def iZipQ (K : PySem.W.Frag) (t u : Bool) (ta : TA) : TI := fun σ H R => ta σ H fun vs H1 => ∃ a b xs ys, vs = [.ref a, .ref b] ∧ sqB t K H1 a xs ∧ sqB u K H1 b ys ∧ R (ItzQ K t u a b) H1
theorem pi_zipQ {X : Cx} (K : PySem.W.Frag) (hK : X.K = K) (t u : Bool) {e e2 : Expr} {ta : TA} {p pos tpos : Pos} {elts : List Expr} {kk : Nat} (hg : Gl X "zip") (hm : X.mg "zip" = none) (ha : PA X [e, e2] ta)
    (hs : starEach [e, e2] X.env = (false, eval e X.env) :: starEach [e2] X.env := by rfl) (hpl : (backTo pos (starEach [e2] X.env)).any (·.1) = false := by rfl) : PI X (.Tuple elts kk tpos) (.Call (.Name "zip" p) [e, e2] [] pos) (iZipQ K t u ta) := by
  subst hK
  refine ⟨fun pins s σ H R I hh => ?_⟩
  refine Call_ (ld_blt I hg hm PyProof.Rows.boot_zip (PyProof.Rows.callWith_type1 (thn (ha.run pos pins s σ H _ I hh) fun _ s1 ⟨_, H1, I1, r1, q1⟩ => ?_) hs hpl))
  obtain ⟨a, b, xs, ys, rfl, qa, qb, q⟩ := q1
  obtain ⟨v1, v2, rfl, r, r'⟩ := vals2 r1
  cases r
  cases r'
  obtain ⟨its, rv, p1⟩ := sqB_inv I1 qa
  obtain ⟨its2, rv2, p2⟩ := sqB_inv I1 qb
  refine zip_begins2 (beginsB t a its.toArray) (beginsB u b its2.toArray) p1 p2 fun g hz hI hO h1 h2 hsz hk => wpAny_pyIter_zip hz ?_
  have I2 : Inv X pins σ H1 { s1 with heap := g } := I1.kept (t' := s1.toks) hk
  refine ⟨s1.heap.objs.size + 4, [s1.heap.objs.size + 4, s1.heap.objs.size + 2, s1.heap.objs.size + 3, s1.heap.objs.size, s1.heap.objs.size + 1], _, _, H1, rfl, I2, turn_zipQ (sep2 s1.heap.objs.size a b p1.lt p2.lt), ⟨hz, hI, ⟨_, _, hO⟩, itB0 h1, itB0 h2⟩, fun c hcm => ?_, q⟩
  have le : s1.heap.objs.size ≤ c := by
    simp only [List.mem_cons, List.not_mem_nil, or_false] at hcm
    rcases hcm with rfl | rfl | rfl | rfl | rfl
    · exact Nat.le_add_right _ _
    · exact Nat.le_add_right _ _
    · exact Nat.le_add_right _ _
    · exact Nat.le_refl _
    · exact Nat.le_add_right _ _
  exact I1.fpOk le (I1.hok.fresh le)
theorem walk_zipQ {K : PySem.W.Frag} {t u : Bool} {a b : Addr} {xs ys : List V} (hl : xs.length = ys.length) : Walk (ItzQ K t u a b) xs.length (fun H => sqB t K H a xs ∧ sqB u K H b ys) (YPair (fun i => xs[i]?) (fun i => ys[i]?)) :=
  ⟨fun i H hi ⟨p, q⟩ => ⟨xs, ys, xs[i], ys[i]'(hl ▸ hi), p, q, List.getElem?_eq_getElem hi, List.getElem?_eq_getElem (hl ▸ hi)⟩, fun H ⟨p, q⟩ => ⟨xs, ys, p, q, Nat.le_refl _, by omega, .inl rfl⟩,
    fun i H x H' hi ⟨p, q⟩ ⟨T, x', y', e, hT, eH, f1, f2⟩ => ⟨T, x', y', e, hT, eH, f1 xs p, f2 ys q⟩⟩
/-! enumerate(text) -/
def ItES (x : Str) : It :=
  ⟨fun i _ => i < x.cps.size, fun i H v H' => ∃ T c, v = .ref T ∧ H T = none ∧ x.cps[i]? = some c ∧ H' = upd H T (.tup [.int (i : Nat), .str ⟨#[c]⟩]), fun i _ => i = x.cps.size⟩
theorem turn_enumS {P : Program} {w : World} {K : PySem.W.Frag} {elts : List Expr} {kk : Nat} {tpos : Pos} (x : Str) (tk0 : Tok) (e it : Addr) (hne : e ≠ it) :
    Turn P w K (.Tuple elts kk tpos) (ItES x) [e, it] e (fun i h => (∃ old, IsEnum h e it ((i : Nat) : Int) old) ∧ h.IsStrIter it (strIterType x) x tk0 i) where
  mem := by simp
  obj := fun i h st b hb => by
    obtain ⟨⟨old, he⟩, o, ho, hc, hd⟩ := st
    have two : b = e ∨ b = it := by simpa using hb
    rcases two with rfl | rfl
    · exact ⟨_, he, fun v q => nomatch q⟩
    · exact ⟨o, ho, fun v q => by rw [hd] at q; cases q⟩
  keep := fun i h h' st k => by
    obtain ⟨⟨old, he⟩, o, ho, hc, hd⟩ := st
    exact ⟨⟨old, k e (by simp) _ he⟩, o, k it (by simp) _ ho, hc, hd⟩
  item := by
    intro X eP ew eK hc i pins s σ H E I hf st hg
    subst eP ew eK
    obtain ⟨⟨old, he⟩, hit⟩ := st
    have el := Heap.lt_size he
    have il : it < s.heap.objs.size := by obtain ⟨_, q, _⟩ := hit; exact Heap.lt_size q
    refine wpAny_pyNext_enum_itemD (Draws.text (prog := X.prog) (w := X.w) (A := X.A.in1) (show X.A.in1.handled = none from I.ok.hd hc) it x tk0) he hit hg hne (by simp [hne]) fun v g tk m ho hit2 hT hsz hk => ?_
    obtain ⟨c, tk2, hx, rfl⟩ := m
    refine ⟨_, rfl, wpAny_letOwnedTupleGo_enum (s := { s with heap := g, toks := tk + 1 }) ho fun g2 he2 sb => ?_⟩
    have hT2 : g2.get? s.heap.objs.size = some { cls := .type "tuple", data := .seq #[.int i tk, .str ⟨#[c]⟩ tk2] } := (sb.2 _ (Nat.ne_of_gt el)).trans hT
    have hob : ObjOk X.prog X.w (upd H s.heap.objs.size (.tup [.int (i : Nat), .str ⟨#[c]⟩])) g2 s.heap.objs.size (.tup [.int (i : Nat), .str ⟨#[c]⟩]) :=
      ⟨by show 2 ≤ sizeLine; decide, [.int i tk, .str ⟨#[c]⟩ tk2], .cons ⟨_, rfl⟩ (.cons ⟨_, rfl⟩ .nil), _, hT2, rfl, _, rfl⟩
    have kk : ∀ b o, b ∉ [e, it] → s.heap.get? b = some o → g2.get? b = some o := fun b o hb q => by
      simp only [List.mem_cons, List.not_mem_nil, or_false, not_or] at hb
      exact (sb.2 b hb.1).trans (hk b o hb.1 hb.2 q)
    refine ⟨.ref s.heap.objs.size, _, I.turnedNew (t' := tk + 1) kk hf (Nat.le_refl _) hob, rfl, ⟨_, c, rfl, I.hok.fresh (Nat.le_refl _), hx, rfl⟩, ⟨⟨.str ⟨#[c]⟩ tk2, ?_⟩, ?_⟩, fun b hb => ?_⟩
    · have q : ((i + 1 : Nat) : Int) = (i : Int) + 1 := by omega
      rw [q]; exact he2
    · obtain ⟨o, q, r⟩ := hit2
      exact ⟨o, (sb.2 it (Ne.symm hne)).trans q, r⟩
    · have lt : b < s.heap.objs.size := by
        have two : b = e ∨ b = it := by simpa using hb
        rcases two with rfl | rfl
        · exact el
        · exact il
      rw [upd_ne (Nat.ne_of_lt lt)]
      exact (hf b hb).1
  done := by
    intro X eP ew eK hc i pins s σ H E I hf st hg
    subst eP ew eK
    obtain ⟨⟨old, he⟩, hit⟩ := st
    obtain rfl : i = x.cps.size := hg
    obtain ⟨c0, c1, c2, c3, c4, c5⟩ := hf it (by simp)
    exact wpAny_pyNext_enum_endD (Draws.text (prog := X.prog) (w := X.w) (A := X.A.in1) (show X.A.in1.handled = none from I.ok.hd hc) it x tk0) he hit fun g eb => ⟨rfl, I.turned (t' := s.toks) (fun b o hb q => eb b o hb q) c0 c1 c3 c4 c5⟩
  self := fun A i s Q E sg => let ⟨⟨_, he⟩, _⟩ := sg; wpAny_pyIter_enum he
def iEnumS (ta : TA) : TI := fun σ H R => ta σ H fun vs H1 => ∃ x, vs = [.str x] ∧ R (ItES x) H1
theorem pi_enumS {X : Cx} {e : Expr} {ta : TA} {p pos tpos : Pos} {elts : List Expr} {kk : Nat} (hg : Gl X "enumerate") (hm : X.mg "enumerate" = none) (ha : PA X [e] ta) (hs : starEach [e] X.env = [(false, eval e X.env)] := by rfl) :
    PI X (.Tuple elts kk tpos) (.Call (.Name "enumerate" p) [e] [] pos) (iEnumS ta) := by
  refine ⟨fun pins s σ H R I hh => ?_⟩
  refine Call_ (ld_blt I hg hm boot_enumerate (PyProof.Rows.callWith_type1 (thn (ha.run pos pins s σ H _ I hh) fun _ s1 ⟨_, H1, I1, r1, q1⟩ => ?_) hs rfl))
  obtain ⟨x, rfl, q⟩ := q1
  obtain ⟨v, rfl, tk0, rfl⟩ := vals1 r1
  refine call_enumerate_str fun g he hit hsz hk => wpAny_pyIter_enum he ?_
  have I2 : Inv X pins σ H1 { s1 with heap := g } := I1.kept (t' := s1.toks) hk
  refine ⟨s1.heap.objs.size + 1, [s1.heap.objs.size + 1, s1.heap.objs.size], _, _, H1, rfl, I2, turn_enumS x tk0 (s1.heap.objs.size + 1) s1.heap.objs.size (Nat.succ_ne_self _), ⟨⟨.none, he⟩, hit⟩, fun b hb => ?_, q⟩
  have le : s1.heap.objs.size ≤ b := by
    simp only [List.mem_cons, List.not_mem_nil, or_false] at hb
    rcases hb with rfl | rfl
    · exact Nat.le_add_right _ _
    · exact Nat.le_refl _
  exact I1.fpOk le (I1.hok.fresh le)
theorem walk_enumS {x : Str} : Walk (ItES x) x.cps.size (fun _ => True) (fun i H v H' => ∃ T c, v = .ref T ∧ H T = none ∧ x.cps[i]? = some c ∧ H' = upd H T (.tup [.int (i : Nat), .str ⟨#[c]⟩])) :=
  ⟨fun _ _ h _ => h, fun _ _ => rfl, fun _ _ _ _ _ _ y => y⟩
theorem pg_tupK {X : Cx} (K : PySem.W.Frag) (hK : X.K = K) {n : Nat} {es : List Expr} {k : Nat} {t : TGs} {pos : Pos} (hc : X.calm = true) (h : PGs X es t) (hn : (assignEach es X.env).length = n := by rfl)
    (hst : (assignEach es X.env).findIdx? (·.1) = none := by rfl) : PG X (.Tuple es k pos) (gTup K n t) := by subst hK; exact pg_tup hc h hn hst
theorem pe_lenSetIK {X : Cx} (K : PySem.W.Frag) (hK : X.K = K) {a : Expr} {ta : TE} {p p2 q pos : Pos} (hg : Gl X "len") (hm : X.mg "len" = none) (hg2 : Gl X "set") (hm2 : X.mg "set" = none) (ha : PE X a ta) (hc : X.calm = true := by rfl)
    (na : starEach [a] X.env = (false, eval a X.env) :: starEach [] X.env := by rfl) : PE X (.Call (.Name "len" p) [.Call (.Name "set" p2) [a] [] q] [] pos) (RZ.tLenSetI K ta) := by subst hK; exact RZ.pe_lenSetI hg hm hg2 hm2 ha hc na
section
variable {K : PySem.W.Frag} {σ : L2.St} {H : Hp} {Q : VK}
theorem rd_lenSet {ta : TE} (h : ta σ H fun x H1 => ∃ (l : Addr) (ns : List Int), x = .ref l ∧ SqL K H1 l (ns.map V.int) ∧ ns.Nodup ∧ ns.length ≤ 4000 ∧ Q (.int (ns.length : Nat)) H1) : RZ.tLenSetI K ta σ H Q := h
theorem rd_iZQ {t u : Bool} {tr : TA} {R : It → Hp → Prop} (h : tr σ H fun vs H1 => ∃ a b xs ys, vs = [.ref a, .ref b] ∧ sqB t K H1 a xs ∧ sqB u K H1 b ys ∧ R (ItzQ K t u a b) H1) : iZipQ K t u tr σ H R := h
theorem rd_iES {tr : TA} {R : It → Hp → Prop} (h : tr σ H fun vs H1 => ∃ x, vs = [.str x] ∧ R (ItES x) H1) : iEnumS tr σ H R := h
end
end JF

/-! ### refusals: own exceptions raised, caught, asked for their class; defs called in an except clause -/
namespace JF
open PySem PySem.Spec PyProof.Rows L2
/-- what the written part says of an exception class -/
structure ExF (K : PySem.W.Frag) (x : Str) : Prop where
  q : PySem.W.excIn K (He.ga K x) veT "ValueError.__new__" = true
  kp : PySem.W.keepIn K (.ref (He.ga K x)) = true
  sb : PySem.W.subIn K (.ref (He.ga K x)) (.type "BaseException") = some true
  ty : PySem.W.typeIn K (.ref (He.ga K x)) = some (.type "type")
  ec : ExcC K (He.ga K x)
section
variable {fa : List He.Fa} {fn : List He.DefD} {K : PySem.W.Frag} {mg : Str → Option Value}
theorem exF_of {x : Str} (h : exB1 K x = true) : ExF K x := by
  unfold exB1 at h
  simp only [Bool.and_eq_true, beq_iff_eq] at h
  obtain ⟨⟨⟨⟨⟨⟨⟨⟨⟨⟨h1, h2⟩, h3⟩, h4⟩, h5⟩, h6⟩, h7⟩, h8⟩, h9⟩, h10⟩, h11⟩ := h
  exact ⟨h1, h2, h3, h4, ⟨h5, h6, h3, h7, h8, h9, h10, h11⟩⟩
theorem Env.exf (T : Env fa fn K mg) {x : Str} (h : x ∈ JF.exN) : ExF K x := exF_of (T.ex1 h)
theorem Env.exm (T : Env fa fn K mg) {x : Str} {c : Sum Str String} {b : Bool} (h : (x, c, b) ∈ JF.exP) : PySem.W.exmOne K (.ref (He.ga K x)) (exV K c) = some b := by
  have z := T.ex2 h
  unfold exB2 at z
  simp only [Bool.and_eq_true, beq_iff_eq] at z
  exact z.1
theorem Env.exk (T : Env fa fn K mg) {x : Str} {c : Sum Str String} {b : Bool} (h : (x, c, b) ∈ JF.exP) : PySem.W.kitOne K (.ref (He.ga K x)) (exV K c) = some b := by
  have z := T.ex2 h
  unfold exB2 at z
  simp only [Bool.and_eq_true, beq_iff_eq] at z
  exact z.2
end
/-! #### raise -/
def sRaise (W : WX) (c : Value) : TS := fun _ σ H => W c none σ H
theorem ps_raiseT {X : Cx} (K : PySem.W.Frag) (hK : X.K = K) {x m : Str} {j : Nat} {p p2 pos pos2 : Pos} {W : WX} (F : ExF K x) (gC : X.mg x = some (.ref (He.ga K x))) (hc : X.calm = true) (tk : L2N.Takes X W) (hg : Gl X x) (hdb : (x == ("__debug__" : Str)) = false := by decide) :
    PS X (.Raise (some (.Call (.Name x p) [.Constant (.str m) j p2] [] pos)) none pos2) (sRaise W (.ref (He.ga K x))) := by
  subst hK
  exact L2N.ps_raise hc tk (L2N.pmk_own PySem.F.excBase_ValueError F.q gC F.kp (raises_own F.sb F.ty) hg hdb)
theorem rd_raise {W : WX} {c : Value} {D : Ends} {σ : L2.St} {H : Hp} (h : W c none σ H) : sRaise W c D σ H := h
/-! #### defs that may raise -/
section
variable {P : Program} {w : World} {K : PySem.W.Frag} {mg : Str → Option Value} {base : Heap} {fa : List He.Fa} {fn : List He.DefD}
theorem good_mkX (T : Env fa fn K mg) (i : Nat) {d : He.DefD} {k : Nat} {N ps : List Str} {sp : Sp} {x qual : Str} {st : Stmt} {at_ : Str × Option Str} (hi : fn[i]? = some d) (hd : d = ⟨at_, x, qual, defArgs st, defBody st, defScope st, [], []⟩) (S : FnScope N ps (defScope st))
    (hb : ∀ (kV doc pm : Value) (an : Option Addr) (cdv ct : Value) (us : List Value), us.length = ps.length → bindArgs (PySem.W.fnOf x qual (defArgs st) (defBody st) (defScope st) .none kV doc pm an cdv ct) ⟨us, []⟩ = pure (ps.zip us))
    (len : ∀ vs H Q E, sp vs H Q E → vs.length = ps.length)
    (hbody : ∀ (f : Addr) (cdv : Value) (A : Around) (outer : List PySem.Env) (s : Shared) (H : Hp) (vs : List V) (Q : VK) (E : XK), Room k (A.deeper (envOfC qual (defScope st) s.heap.objs.size f cdv)) → sp vs H Q E →
      ∃ t, PSs (cxOf (L2N.CX P w) P w K mg base N qual (defScope st) f cdv A outer s H E) (defBody st) t ∧ t { nx := fun _ H' => Q .non H', rt := Q } (start N vs) H) : Good P w K mg base (L2N.CX P w) (k + 1) at_ ps sp := by
  subst hd
  obtain ⟨fd, F⟩ := T.c.def_ i hi
  exact ⟨fd, FunD.ok F S len fun cdv A outer s H vs Q E hr h => hbody _ cdv A outer s H vs Q E hr h, FunD.bindsN F hb, F.kp, fdAt_of F⟩
end
section
variable {X : Cx} {k : Nat} {x m : Str} {ps : List Str} {sp : Sp} {p pos apos : Pos} {e o : Expr} {es : List Expr} {ta : TE} {t : TA} {W : WX} {K : PySem.W.Frag}
/-- the call of a def that may raise -/
theorem pe_cgX (K : PySem.W.Frag) (hK : X.K = K) (tk : L2N.Takes X W) (G : Good X.prog X.w K X.mg X.base (L2N.CX X.prog X.w) k (x, none) ps sp) (hr : Room k X.A) (hm : X.mg x = some (.ref (He.ga K x))) (ha : PA X (e :: es) t) (hg : Gl X x := by rfl)
    (hdb : (x == ("__debug__" : Str)) = false := by decide) (he : starEach (e :: es) X.env = (false, eval e X.env) :: starEach es X.env := by rfl) (hpl : (backTo pos (starEach es X.env)).any (·.1) = false := by rfl) :
    PE X (.Call (.Name x p) (e :: es) [] pos) (tCallS sp (fun σ cls d H' => W cls d σ H') t) := by
  subst hK
  obtain ⟨fd, F, b, kp, lk⟩ := G
  exact pe_callS F hr hg hm kp b (fun σ => L2N.passAt tk σ) ha hdb he hpl
theorem rd_callS {E : L2.St → XK} {σ : L2.St} {H : Hp} {Q : VK} (h : t σ H fun vs H1 => sp vs H1 Q (E σ)) : tCallS sp E t σ H Q := h
end
theorem takes0N {X : Cx} : L2N.Takes X (fun _ _ _ _ => False) := fun _ _ x => by
  obtain ⟨_, _, _, _, _, _, _, _, _, _, _, _, _, _, _, _, z⟩ := x
  exact z.elim
/-! #### try: .. except X as n -/
def sTryAs (K : PySem.W.Frag) (c : Value) (i : Nat) (tb : WX → TS) (ts : Addr → Value → Option Addr → TS) (Wo : WX) : TS := fun D σ H => tb (wAs K c i ts Wo D) D σ H
theorem ps_tryA {X : Cx} (K : PySem.W.Frag) (hK : X.K = K) {x n : Str} {c : Value} {i : Nat} {body suite : List Stmt} {b₀ : Stmt} {np pos pos' : Pos} {tb : WX → TS} {ts : Addr → Value → Option Addr → TS} {Wo : WX} (hs : X.stack = X.env :: X.outer) (hf : X.env.frame = some X.env.locals) (hN : X.N.Nodup)
    (hi : X.N[i]? = some n) (hln : X.env.kindOf n = some .local) (hc : Names X x c) (tk : L2N.Takes X Wo)
    (hb : ∀ (W : WX) (pn : List (Addr × Obj)) (xe : Value → Shared → Prop), L2N.Takes (X.tr pn xe) W → PassesOwn (model X.prog X.w) X.A X.env xe → PSs (X.tr pn xe) body (tb W))
    (hsu : ∀ (a : Addr) (oe : Obj) (cls : Value) (d : Option Addr) (pn : List (Addr × Obj)), L2N.Zn cls d oe → (∃ vs, oe.data = .fields vs) → PSs (X.suite a ((a, oe) :: pn)) (b₀ :: suite) (ts a cls d)) :
    PS X (.Try body [.ExceptHandler (some (.Name x np)) (some n) (b₀ :: suite) pos'] [] [] pos) (sTryAs K c i tb ts Wo) := by
  subst hK
  exact L2N.ps_try_as hs hf hN hi hln hc tk hb hsu
theorem rd_tryA {K : PySem.W.Frag} {c : Value} {i : Nat} {tb : WX → TS} {ts : Addr → Value → Option Addr → TS} {Wo : WX} {D : Ends} {σ : L2.St} {H : Hp} (h : tb (wAs K c i ts Wo D) D σ H) : sTryAs K c i tb ts Wo D σ H := h
/-- the exception is of the class -/
theorem wAs_yes {K : PySem.W.Frag} {c cls : Value} {i : Nat} {ts : Addr → Value → Option Addr → TS} {Wo : WX} {D : Ends} {d : Option Addr} {σ : L2.St} {H : Hp} (e : PySem.W.exmOne K cls c = some true)
    (h : ∀ a, H a = none → ts a cls d { nx := fun σ' H' => D.nx (σ'.set i none) H', rt := D.rt, bk := fun σ' H' => D.bk (σ'.set i none) H', ct := fun σ' H' => D.ct (σ'.set i none) H' } (σ.set i (some (.ref a))) H) : wAs K c i ts Wo D cls d σ H :=
  ⟨true, e, fun _ => h, fun z => nomatch z⟩
/-! #### try: .. except X -/
def sTry1 (K : PySem.W.Frag) (c : Value) (tb : WX → TS) (ts : Addr → Value → Option Addr → TS) (Wo : WX) : TS := fun D σ H => tb (wMany K Wo D [(c, ts)]) D σ H
theorem ps_try1 {X : Cx} (K : PySem.W.Frag) (hK : X.K = K) {x : Str} {c : Value} {body suite : List Stmt} {b₀ : Stmt} {np pos pos' : Pos} {tb : WX → TS} {ts : Addr → Value → Option Addr → TS} {Wo : WX} (hs : X.stack = X.env :: X.outer) (hf : X.env.frame = some X.env.locals) (hc : Names X x c) (tk : L2N.Takes X Wo)
    (hb : ∀ (W : WX) (pn : List (Addr × Obj)) (xe : Value → Shared → Prop), L2N.Takes (X.tr pn xe) W → PassesOwn (model X.prog X.w) X.A X.env xe → PSs (X.tr pn xe) body (tb W))
    (hsu : ∀ (a : Addr) (oe : Obj) (cls : Value) (d : Option Addr) (pn : List (Addr × Obj)), L2N.Zn cls d oe → (∃ vs, oe.data = .fields vs) → PSs (X.suite a ((a, oe) :: pn)) (b₀ :: suite) (ts a cls d)) :
    PS X (.Try body [.ExceptHandler (some (.Name x np)) none (b₀ :: suite) pos'] [] [] pos) (sTry1 K c tb ts Wo) := by
  subst hK
  exact L2N.ps_try_many hs hf tk hb (.cons hc hsu .nil)
theorem rd_try1 {K : PySem.W.Frag} {c : Value} {tb : WX → TS} {ts : Addr → Value → Option Addr → TS} {Wo : WX} {D : Ends} {σ : L2.St} {H : Hp} (h : tb (wMany K Wo D [(c, ts)]) D σ H) : sTry1 K c tb ts Wo D σ H := h
/-! #### isinstance of the exception -/
def rIsX (K : PySem.W.Frag) (cls : Value) (d : Option Addr) (a : Addr) : List V → Hp → VK → Prop := fun xs H Q => ∃ D, cls = .ref D ∧ d = none ∧ ExcC K D ∧ rIsE K D a xs H Q
theorem call_isP {X : Cx} (K : PySem.W.Frag) (hK : X.K = K) {a : Addr} {oe : Obj} {cls : Value} {d : Option Addr} (hp : (a, oe) ∈ X.pn) (hz : Zc cls d oe) (hf : ∃ vs, oe.data = .fields vs) : CallR X (.builtin "isinstance") (rIsX K cls d a) := by
  subst hK
  intro pins s σ H xs us Q I r h
  obtain ⟨D, rfl, rfl, C, c, cv, b, rfl, hcv, e, q⟩ := h
  obtain ⟨u1, u2, rfl, rx, rt⟩ := vals2 r
  cases rx
  obtain rfl := hcv _ rt
  obtain ⟨hget, _⟩ := I.pin (a, oe) (List.mem_append_left _ hp)
  obtain ⟨vs, hv⟩ := hf
  have J : PySem.W.InstAt s.heap a oe D none := by
    obtain ⟨oc, od, oda, osl⟩ := oe
    obtain ⟨h1, h2⟩ := hz
    simp only at h1 h2 hv
    subst h1 h2 hv
    exact ⟨hget, rfl, rfl, trivial⟩
  exact PySem.W.kia_one (PySem.W.handS_kitx_exc C.hg C.hk C.hs C.hd C.ha C.hn C.ht C.hm) I.kIn J e (fun z => nomatch z) fun tk => ⟨.bl b, H, I.kept (t' := tk) fun _ _ z => z, rfl, q⟩
section
variable {K : PySem.W.Frag} {H : Hp} {Q : VK} {D a : Addr}
theorem rd_isX {c : Addr} {b : Bool} (C : ExcC K D) (e : PySem.W.kitOne K (.ref D) (.ref c) = some b) (q : Q (.bl b) H) : rIsX K (.ref D) none a [.ref a, .ref c] H Q := ⟨D, rfl, rfl, C, .ref c, .ref c, b, rfl, fun _ r => r, e, q⟩
theorem rd_isXT {t : String} {b : Bool} (C : ExcC K D) (e : PySem.W.kitOne K (.ref D) (.type t) = some b) (q : Q (.bl b) H) : rIsX K (.ref D) none a [.ref a, .ty t] H Q := ⟨D, rfl, rfl, C, .ty t, .type t, b, rfl, fun _ r => r, e, q⟩
end
/-! #### a def called with the exception in an except clause -/
structure FnE (P : Program) (w : World) (K : PySem.W.Frag) (mg : Str → Option Value) (base : Heap) (k : Nat) (f : Addr) (fd : FuncData) (ps : List Str) (sp : Value → Option Addr → Addr → Sp) : Prop where
  len : ∀ cls d a vs H Q E, sp cls d a vs H Q E → vs.length = ps.length
  run : ∀ (A : Around) (outer : List PySem.Env) (s : Shared) (H : Hp) (args : Args) (us : List Value) (vs : List V) (Q : VK) (E : XK) (p : Addr × Obj) (cls : Value) (d : Option Addr), L2H.RoomH k A → (∃ vs : Array Value, p.2.data = .fields vs) → L2H.PinOk outer H s p → Zc cls d p.2 → Env0 P w K mg base A outer s H →
    BindsTo s fd args (ps.zip us) → Vals vs us → sp cls d p.1 vs H Q E → codeAny (model P w) A (.call (.ref f) args) (CR CX0 outer P w H s Q E) s
theorem fn_mkE {P : Program} {w : World} {K : PySem.W.Frag} {mg : Str → Option Value} {base : Heap} {k : Nat} {f : Addr} {name qual : Str} {params : Arguments} {body : List Stmt} {scope : Scope} {dV kV doc pm cdv ct oc : Value} {an od : Option Addr} {osl : Array (Option Value)} {N ps : List Str} {sp : Value → Option Addr → Addr → Sp}
    (lk : K.lookup f = some ⟨oc, od, .func (PySem.W.fnOf name qual params body scope dV kV doc pm an cdv ct), osl⟩) (hcd : PySem.W.codeIn K cdv qual = true) (S : FnScope N ps scope) (len : ∀ cls d a vs H Q E, sp cls d a vs H Q E → vs.length = ps.length)
    (hbody : ∀ (A : Around) (outer : List PySem.Env) (s : Shared) (H : Hp) (vs : List V) (Q : VK) (E : XK) (p : Addr × Obj) (cls : Value) (d : Option Addr), (∃ vs : Array Value, p.2.data = .fields vs) → Zc cls d p.2 → L2H.RoomH k (A.deeper (envOfC qual scope s.heap.objs.size f cdv)) → sp cls d p.1 vs H Q E →
      ∃ t, PSs (L2H.cxH CX0 P w K mg base N qual scope f cdv A outer s H E p) body t ∧ t { nx := fun _ H' => Q .non H', rt := Q } (L2.start N vs) H) :
    FnE P w K mg base (k + 1) f (PySem.W.fnOf name qual params body scope dV kV doc pm an cdv ct) ps sp := by
  refine ⟨len, fun A outer s H args us vs Q E p cls d hr hot pok hz e0 hb r h => ?_⟩
  have KX : K.In s.heap := e0.mod.kin.keeps fun b o e => (e0.bs b o e).1
  have nl : s.heap.NoLimit := e0.mod.nolimit.keeps fun b o e => (e0.bs b o e).1
  have kinds : ∀ y ∈ ps.zip us, scope.names.lookup y.1 = some .local ∨ (scope.names.lookup y.1 = some .cell ∧ ((cellsFrom (s.heap.objs.size + 1) scope.names []).lookup y.1).isSome = true) := by
    rintro ⟨n, v⟩ hy
    rcases S.par n (List.of_mem_zip hy).1 with z | z
    · exact .inl z
    · exact .inr ⟨z, PySem.W.cellsFrom_some _ _ _ (.inl z)⟩
  refine codeAny_call_function hr.depth (KX _ _ lk) rfl S.co S.gen rfl (PySem.W.codeRec_of KX hcd) (hb _ _ _ _ (wpAny_newFunctionEnv_cells S.kind kinds fun env he s1 x => ?_))
  subst he
  refine ⟨nl.keeps x.toInCall.keep, codeAny_func ?_⟩
  obtain ⟨t, ht, hq⟩ := hbody A outer s H vs Q E p cls d hot hz (hr.deeper _) h
  have I := L2H.inv_startH (CX := CX0) (E := E) S pok e0 (len _ _ _ _ _ _ _ h) r x
  refine wpAny_mono (ht.run [] s1 (L2.start N vs) H _ I hq) (fun fl s2 hs => ?_) fun _ _ hs => hs
  cases fl with
  | next => obtain ⟨σ2, H2, J, q⟩ := hs; exact ⟨V.non, H2, J.os, J.bare, J.base, J.hok, rfl, q⟩
  | ret u => obtain ⟨v, σ2, H2, J, rv, q⟩ := hs; exact ⟨v, H2, J.os, J.bare, J.base, J.hok, rv, q⟩
  | brk => obtain ⟨_, _, _, q⟩ := hs; exact q.elim
  | cont => obtain ⟨_, _, _, q⟩ := hs; exact q.elim
def GoodE (P : Program) (w : World) (K : PySem.W.Frag) (mg : Str → Option Value) (base : Heap) (k : Nat) (p : Str × Option Str) (ps : List Str) (sp : Value → Option Addr → Addr → Sp) : Prop :=
  ∃ fd, FnE P w K mg base k (He.fAd K p) fd ps sp ∧ Binds K fd ps [] ∧ PySem.W.keepIn K (.ref (He.fAd K p)) = true
theorem good_mkE {P : Program} {w : World} {K : PySem.W.Frag} {mg : Str → Option Value} {base : Heap} {fa : List He.Fa} {fn : List He.DefD} (T : Env fa fn K mg) (i : Nat) {d : He.DefD} {k : Nat} {N ps : List Str} {sp : Value → Option Addr → Addr → Sp} {x qual : Str} {st : Stmt} {at_ : Str × Option Str} (hi : fn[i]? = some d)
    (hd : d = ⟨at_, x, qual, defArgs st, defBody st, defScope st, [], []⟩) (S : FnScope N ps (defScope st))
    (hb : ∀ (kV doc pm : Value) (an : Option Addr) (cdv ct : Value) (us : List Value), us.length = ps.length → bindArgs (PySem.W.fnOf x qual (defArgs st) (defBody st) (defScope st) .none kV doc pm an cdv ct) ⟨us, []⟩ = pure (ps.zip us))
    (len : ∀ cls d a vs H Q E, sp cls d a vs H Q E → vs.length = ps.length)
    (hbody : ∀ (f : Addr) (cdv : Value) (A : Around) (outer : List PySem.Env) (s : Shared) (H : Hp) (vs : List V) (Q : VK) (E : XK) (p : Addr × Obj) (cls : Value) (d : Option Addr), Zc cls d p.2 → (∃ vs, p.2.data = .fields vs) → L2H.RoomH k (A.deeper (envOfC qual (defScope st) s.heap.objs.size f cdv)) → sp cls d p.1 vs H Q E →
      ∃ t, PSs (L2H.cxH CX0 P w K mg base N qual (defScope st) f cdv A outer s H E p) (defBody st) t ∧ t { nx := fun _ H' => Q .non H', rt := Q } (start N vs) H) : GoodE P w K mg base (k + 1) at_ ps sp := by
  subst hd
  obtain ⟨fd, F⟩ := T.c.def_ i hi
  refine ⟨fd, ?_, FunD.bindsN F hb, F.kp⟩
  obtain ⟨oc, od, dV, kV, doc, pm, an, cdv, ct, osl, rfl, lk, hcd, _, _⟩ := F.ex
  exact fn_mkE lk hcd S len fun A outer s H vs Q E p cls d hot hz hr h => hbody _ cdv A outer s H vs Q E p cls d hz hot hr h
section
variable {X : Cx} {k : Nat} {x : Str} {ps : List Str} {sp : Value → Option Addr → Addr → Sp} {q pos : Pos} {e : Expr} {es : List Expr} {t : TA} {cls : Value} {d : Option Addr} {a : Addr} {oe : Obj}
def tCallE (sp : Sp) (t : TA) : TE := fun σ H Q => t σ H fun vs H1 => sp vs H1 Q E0
theorem pe_callE (K : PySem.W.Frag) (hK : X.K = K) (G : GoodE X.prog X.w K X.mg X.base k (x, none) ps sp) (hr : L2H.RoomH k X.A) (hot : ∃ vs : Array Value, oe.data = .fields vs) (hp : (a, oe) ∈ X.pn) (hz : Zc cls d oe) (hm : X.mg x = some (.ref (He.ga K x))) (ha : PA X (e :: es) t) (hg : Gl X x := by rfl)
    (hdb : (x == ("__debug__" : Str)) = false := by decide) (he : starEach (e :: es) X.env = (false, eval e X.env) :: starEach es X.env := by rfl) (hpl : (backTo pos (starEach es X.env)).any (·.1) = false := by rfl) :
    PE X (.Call (.Name x q) (e :: es) [] pos) (tCallE (sp cls d a) t) := by
  subst hK
  obtain ⟨fd, F, hb, hk⟩ := G
  refine ⟨fun pins s σ H Q I h => wpAny_Call_Name_kw (ld_glob I hg hm ?_ hdb)⟩
  refine PySem.W.callWith_K (h₀ := X.base) I.ok.mod.kin hk (thn (ha.run pos pins s σ H _ I h) fun us s1 ⟨vs, H1, I1, r, h1⟩ => ⟨I1.kIn, ?_⟩) he hpl
  have hl : us.length = ps.length := by rw [← r.length]; exact F.len _ _ _ _ _ _ _ h1
  have b := hb s1 us I1.kIn (by rw [List.append_nil]; exact hl)
  rw [List.append_nil] at b
  have p1 := I1.pin (a, oe) (List.mem_append_left _ hp)
  have pok : L2H.PinOk X.stack H1 s1 (a, oe) := ⟨p1.1, p1.2.1, fun hm => (List.mem_cons.mp (I1.stkSub a hm)).elim p1.2.2.1 p1.2.2.2.1, p1.2.2.2.2⟩
  refine wpAny_call (codeAny_mono (F.run X.A X.stack s1 H1 ⟨us, []⟩ us vs Q E0 (a, oe) cls d hr hot pok hz I1.env0 b r h1) fun z s2 hq => ?_)
  cases z with
  | error e => exact hq.elim
  | ok fl =>
    cases fl with
    | ret u => exact I1.after hq
    | next => exact hq.elim
    | brk => exact hq.elim
    | cont => exact hq.elim
theorem rd_callE {sp : Sp} {σ : L2.St} {H : Hp} {Q : VK} (h : t σ H fun vs H1 => sp vs H1 Q E0) : tCallE sp t σ H Q := h
end
theorem roomH_suite {X : Cx} {k j : Nat} {a : Addr} {pn : List (Addr × Obj)} (hr : Room k X.A) (h : j ≤ k) : L2H.RoomH j (X.suite a pn).A := ⟨(hr.mono h).dp, (hr.mono h).un⟩
theorem hot_of {A : Around} {a : Addr} {oe : Obj} {cls : Value} {d : Option Addr} (h : A.handled = some (.ref a)) (hz : L2N.Zn cls d oe) (hf : ∃ vs, oe.data = .fields vs) : L2H.Hot1 A (a, oe) := ⟨h, let ⟨vs, e⟩ := hf; ⟨vs, e, hz.2.2 vs e⟩⟩
end JF

/-! ### methods that may raise -/
namespace JF
open PySem PySem.Spec PyProof.Rows L2
section
variable {X : Cx} {k : Nat} {x m : Str} {ps : List Str} {sp : Sp} {p pos apos : Pos} {e o : Expr} {es : List Expr} {ta : TE} {t : TA} {W : WX} {K : PySem.W.Frag}
def tMethX (C : Addr) (m : Str) (sp : Sp) (E : L2.St → XK) (ta : TE) (t : TA) : TE := fun σ H Q => ta σ H fun x H1 => ∃ a dx fs, x = .ref a ∧ H1 a = some (.ins C dx fs) ∧ fs.lookup m = none ∧ t σ H1 fun vs H2 => sp (x :: vs) H2 Q (E σ)
theorem pe_mgX (K : PySem.W.Frag) (hK : X.K = K) {cn : Str} {pl : Sem Bool} (tk : L2N.Takes X W) (he : PE X o ta) (c : Cls K (He.ga K cn)) (hm : Meth K (He.ga K cn) m (He.ma K (He.ga K cn) m)) (G : Good X.prog X.w K X.mg X.base (L2N.CX X.prog X.w) k (cn, some m) ps sp) (hr : Room k X.A) (ha : PA X (e :: es) t)
    (hst : starEach (e :: es) X.env = (false, eval e X.env) :: starEach es X.env := by rfl) (hpl : (backTo pos (starEach es X.env)).any (·.1) = false := by rfl)
    (ht : eval (.Call (.Attribute o m apos) (e :: es) [] pos) X.env = (do
      let ov ← eval o X.env
      standAt apos.atName
      let (f, first) ← holding [ov] (getMethod ov m pl)
      callWith pos f first (backTo pos (starEach (e :: es) X.env)) (backToKw pos (keywordEach [] X.env))) := by rfl) :
    PE X (.Call (.Attribute o m apos) (e :: es) [] pos) (tMethX (He.ga K cn) m sp (fun σ cls d H' => W cls d σ H') ta t) := by
  subst hK
  obtain ⟨fd, F, b, kp, lk⟩ := G
  refine ⟨fun pins s σ H Q I h => ?_⟩
  refine PySem.W.methodCall_KW (pl := pl) (thn (he.run pins s σ H _ I h) fun u s1 ⟨x, H1, I1, rx, a, dx, fs, ex, ea, l, q⟩ => ?_) ht
  subst ex
  have eu : u = Value.ref a := rx
  subst eu
  refine (getmeth_ok I1 ea c hm l ?_)
  refine (PySem.W.callWith_K (first := [.ref a]) (h₀ := X.base) I.ok.mod.kin hm.kp (thn (ha.run pos pins s1 σ H1 _ I1 q) fun us s2 ⟨vs, H2, I2, r, q2⟩ => ⟨I2.kIn, ?_⟩) hst hpl)
  exact run_fnS (us := .ref a :: us) (vs := .ref a :: vs) F hr b (L2N.passAt tk σ) I2 (.cons rfl r) q2
theorem rd_methX {C : Addr} {E : L2.St → XK} {σ : L2.St} {H : Hp} {Q : VK} (h : ta σ H fun x H1 => ∃ a dx fs, x = .ref a ∧ H1 a = some (.ins C dx fs) ∧ fs.lookup m = none ∧ t σ H1 fun vs H2 => sp (x :: vs) H2 Q (E σ)) : tMethX C m sp E ta t σ H Q := h
end
end JF

/-! ### exceptions that have a context: raised in an except clause, let out of defs, caught -/
namespace JF
open PySem PySem.Spec PyProof.Rows L2
theorem sky_imp {Z Z' : Obj → Prop} (z : ∀ o, Z o → Z' o) {B : Heap} {l : List PySem.Env} {a L : Addr} {h : Heap} (x : Sky B l a Z L h) : Sky B l a Z' L h := by
  rcases x with ⟨h1, h2, h3, oe, vs, he, hz, r⟩ | x | x
  · exact .inl ⟨h1, h2, h3, oe, vs, he, z _ hz, r⟩
  · exact .inr (.inl (L2H.flyingZ_imp z x))
  · exact .inr (.inr ⟨x.1, x.2.1, x.2.2.1, L2H.tracedZ_imp z x.2.2.2⟩)
/-- what takes exceptions takes those without a context -/
theorem takesN {X : Cx} {W : WX} (tk : L2.Takes X W) : L2N.Takes X W := fun u s' ⟨a, B, sI, pins, σ, H, cls, d, e, I, nb, up, sky, na, os, ag, w⟩ =>
  tk u s' ⟨a, B, sI, pins, σ, H, cls, d, e, I, nb, up, sky_imp (fun _ => L2N.Zn.zc) sky, na, os, ag, w⟩
theorem passAtC {X : Cx} {W : WX} (tk : L2.Takes X W) (σ : L2.St) : PassesAt (L2.CX X.prog X.w) X σ (WE W σ) := fun _ _ _ e s' I c => tk e s' (L2.XE.of_call I (fun _ _ _ h => h) c)
section
variable {P : Program} {w : World} {K : PySem.W.Frag} {mg : Str → Option Value} {base : Heap} {fa : List He.Fa} {fn : List He.DefD}
theorem good_mkV (T : Env fa fn K mg) (i : Nat) {d : He.DefD} {k : Nat} {N ps : List Str} {sp : Sp} {x qual : Str} {st : Stmt} {at_ : Str × Option Str} (hi : fn[i]? = some d) (hd : d = ⟨at_, x, qual, defArgs st, defBody st, defScope st, [], []⟩) (S : FnScope N ps (defScope st))
    (hb : ∀ (kV doc pm : Value) (an : Option Addr) (cdv ct : Value) (us : List Value), us.length = ps.length → bindArgs (PySem.W.fnOf x qual (defArgs st) (defBody st) (defScope st) .none kV doc pm an cdv ct) ⟨us, []⟩ = pure (ps.zip us))
    (len : ∀ vs H Q E, sp vs H Q E → vs.length = ps.length)
    (hbody : ∀ (f : Addr) (cdv : Value) (A : Around) (outer : List PySem.Env) (s : Shared) (H : Hp) (vs : List V) (Q : VK) (E : XK), Room k (A.deeper (envOfC qual (defScope st) s.heap.objs.size f cdv)) → sp vs H Q E →
      ∃ t, PSs (cxOf (L2.CX P w) P w K mg base N qual (defScope st) f cdv A outer s H E) (defBody st) t ∧ t { nx := fun _ H' => Q .non H', rt := Q } (start N vs) H) : Good P w K mg base (L2.CX P w) (k + 1) at_ ps sp := by
  subst hd
  obtain ⟨fd, F⟩ := T.c.def_ i hi
  exact ⟨fd, FunD.ok F S len fun cdv A outer s H vs Q E hr h => hbody _ cdv A outer s H vs Q E hr h, FunD.bindsN F hb, F.kp, fdAt_of F⟩
end
section
variable {X : Cx} {k : Nat} {x m : Str} {ps : List Str} {sp : Sp} {p pos apos : Pos} {e o : Expr} {es : List Expr} {ta : TE} {t : TA} {W : WX} {K : PySem.W.Frag}
/-- the call of a def that may raise, with any context -/
theorem pe_cgC2 (K : PySem.W.Frag) (hK : X.K = K) (tk : L2.Takes X W) (G : Good X.prog X.w K X.mg X.base (L2.CX X.prog X.w) k (x, none) ps sp) (hr : Room k X.A) (hm : X.mg x = some (.ref (He.ga K x))) (ha : PA X (e :: es) t) (hg : Gl X x := by rfl)
    (hdb : (x == ("__debug__" : Str)) = false := by decide) (he : starEach (e :: es) X.env = (false, eval e X.env) :: starEach es X.env := by rfl) (hpl : (backTo pos (starEach es X.env)).any (·.1) = false := by rfl) :
    PE X (.Call (.Name x p) (e :: es) [] pos) (tCallS sp (fun σ cls d H' => W cls d σ H') t) := by
  subst hK
  obtain ⟨fd, F, b, kp, lk⟩ := G
  exact pe_callS F hr hg hm kp b (fun σ => passAtC tk σ) ha hdb he hpl
/-- raise X("..") in an except clause -/
theorem ps_raiseHT {X : Cx} (K : PySem.W.Frag) (hK : X.K = K) {x m : Str} {j : Nat} {p p2 pos pos2 : Pos} {W : WX} (F : ExF K x) (gC : X.mg x = some (.ref (He.ga K x))) (hc : L2H.HotC X) (tk : L2.Takes X W) (hg : Gl X x) (hdb : (x == ("__debug__" : Str)) = false := by decide) :
    PS X (.Raise (some (.Call (.Name x p) [.Constant (.str m) j p2] [] pos)) none pos2) (sRaise W (.ref (He.ga K x))) := by
  subst hK
  exact L2H.ps_raiseH hc tk (L2N.pmk_own PySem.F.excBase_ValueError F.q gC F.kp (raises_own F.sb F.ty) hg hdb)
end
theorem takes0C {X : Cx} : L2.Takes X (fun _ _ _ _ => False) := fun _ _ x => by
  obtain ⟨_, _, _, _, _, _, _, _, _, _, _, _, _, _, _, _, z⟩ := x
  exact z.elim
theorem passC_of {X : Cx} {K : Value → Shared → Prop} {E₁ : Value → Shared → Prop} (hx : X.xe = fun e s' => wpAny (model X.prog X.w) X.A (leaving X.env e) (fun _ s'' => K e s'') E₁ s') (hd : Option Value) : PassesOwnAt (model X.prog X.w) (X.A.mark hd) X.A X.env X.xe := by
  rw [hx]
  exact PassesOwnAt.leaving
/-! #### try: .. except X: raise Y("..") -/
def sTryR (K : PySem.W.Frag) (c : Value) (tb : WX → TS) (ts : Addr → Value → Option Addr → TS) (Wo : WX) : TS := fun D σ H => tb (wOnly K c ts Wo D) D σ H
theorem ps_tryR {X : Cx} (K : PySem.W.Frag) (hK : X.K = K) {x : Str} {c : Value} {body suite : List Stmt} {b₀ : Stmt} {np pos pos' : Pos} {tb : WX → TS} {ts : Addr → Value → Option Addr → TS} {Wo : WX} (hs : X.stack = X.env :: X.outer) (hf : X.env.frame = some X.env.locals) (hc : Names X x c) (hpa : ∀ hd : Option Value, PassesOwnAt (model X.prog X.w) (X.A.mark hd) X.A X.env X.xe) (tk : L2.Takes X Wo)
    (hb : ∀ (W : WX) (pn : List (Addr × Obj)) (xe : Value → Shared → Prop), L2N.Takes (X.tr pn xe) W → PassesOwn (model X.prog X.w) X.A X.env xe → PSs (X.tr pn xe) body (tb W))
    (hsu : ∀ (a : Addr) (oe : Obj) (cls : Value) (d : Option Addr) (pn : List (Addr × Obj)), L2.Takes (L2H.suiteX X a ((a, oe) :: pn)) Wo → L2H.HotC (L2H.suiteX X a ((a, oe) :: pn)) → PSs (L2H.suiteX X a ((a, oe) :: pn)) (b₀ :: suite) (ts a cls d)) :
    PS X (.Try body [.ExceptHandler (some (.Name x np)) none (b₀ :: suite) pos'] [] [] pos) (sTryR K c tb ts Wo) := by
  subst hK
  exact L2H.ps_try_onlyX hs hf hc hpa tk (fun W pn xe t1 _ pw => hb W pn xe t1 pw) fun a oe cls d pn _ _ t h => hsu a oe cls d pn t h
theorem rd_tryR {K : PySem.W.Frag} {c : Value} {tb : WX → TS} {ts : Addr → Value → Option Addr → TS} {Wo : WX} {D : Ends} {σ : L2.St} {H : Hp} (h : tb (wOnly K c ts Wo D) D σ H) : sTryR K c tb ts Wo D σ H := h
/-! #### try: .. except X as n, whatever context -/
theorem ps_tryAC {X : Cx} (K : PySem.W.Frag) (hK : X.K = K) {x n : Str} {c : Value} {i : Nat} {body suite : List Stmt} {b₀ : Stmt} {np pos pos' : Pos} {tb : WX → TS} {ts : Addr → Value → Option Addr → TS} {Wo : WX} (hs : X.stack = X.env :: X.outer) (hf : X.env.frame = some X.env.locals) (hN : X.N.Nodup)
    (hi : X.N[i]? = some n) (hln : X.env.kindOf n = some .local) (hc : Names X x c) (tk : L2.Takes X Wo)
    (hb : ∀ (W : WX) (pn : List (Addr × Obj)) (xe : Value → Shared → Prop), L2.Takes (X.tr pn xe) W → PassesOwn (model X.prog X.w) X.A X.env xe → PSs (X.tr pn xe) body (tb W))
    (hsu : ∀ (a : Addr) (oe : Obj) (cls : Value) (d : Option Addr) (pn : List (Addr × Obj)), Zc cls d oe → (∃ vs, oe.data = .fields vs) → PSs (X.suite a ((a, oe) :: pn)) (b₀ :: suite) (ts a cls d)) :
    PS X (.Try body [.ExceptHandler (some (.Name x np)) (some n) (b₀ :: suite) pos'] [] [] pos) (sTryAs K c i tb ts Wo) := by
  subst hK
  exact L2.ps_try_as hs hf hN hi hln hc tk hb hsu
end JF

/-! ### fields walked down by quarters -/
namespace JF
open PySem PySem.Spec PyProof.Rows L2
/-! #### the plain law -/
/-- the living cells of a square whose upper left cell lies at a place -/
def wi : Sq → Int → Int → List (List Int)
  | .leaf s, x, y => if s = 0 then [] else [[y, x, s]]
  | .node a b c d, x, y => wi a x y ++ wi b (x + 2 ^ a.level) y ++ wi c x (y + 2 ^ a.level) ++ wi d (x + 2 ^ a.level) (y + 2 ^ a.level)
theorem wi_len : ∀ (S : Sq) (x y : Int), ((wi S x y).length : Int) = S.lives
  | .leaf s, x, y => by
    show ((if s = 0 then [] else [[y, x, s]] : List (List Int)).length : Int) = if s = 0 then 0 else 1
    split <;> rfl
  | .node a b c d, x, y => by
    have ha := wi_len a x y; have hb := wi_len b (x + 2 ^ a.level) y; have hc := wi_len c x (y + 2 ^ a.level); have hd := wi_len d (x + 2 ^ a.level) (y + 2 ^ a.level)
    show ((wi a x y ++ wi b (x + 2 ^ a.level) y ++ wi c x (y + 2 ^ a.level) ++ wi d (x + 2 ^ a.level) (y + 2 ^ a.level)).length : Int) = a.lives + b.lives + c.lives + d.lives
    rw [List.length_append, List.length_append, List.length_append]
    omega
theorem wi_none {S : Sq} (h : S.lives = 0) (x y : Int) : wi S x y = [] := by
  have e := wi_len S x y
  rw [h] at e
  exact List.length_eq_zero_iff.mp (by omega)
theorem get_nodeW {A B C D : Sq} (w : (Sq.node A B C D).wf) {x y : Int} (x0 : 0 ≤ x) (x1 : x < 2 ^ A.level) (y0 : 0 ≤ y) (y1 : y < 2 ^ A.level) :
    (Sq.node A B C D).get x y = A.get x y ∧ (Sq.node A B C D).get (x + 2 ^ A.level) y = B.get x y ∧ (Sq.node A B C D).get x (y + 2 ^ A.level) = C.get x y ∧ (Sq.node A B C D).get (x + 2 ^ A.level) (y + 2 ^ A.level) = D.get x y := by
  obtain ⟨h, e⟩ : ∃ h : Int, h = 2 ^ A.level := ⟨_, rfl⟩
  have eq : ∀ u v : Int, (Sq.node A B C D).get u v = (if v < h then (if u < h then A.get u v else B.get (u - h) v) else (if u < h then C.get u (v - h) else D.get (u - h) (v - h))) := fun u v => by rw [e]; rfl
  rw [← e] at x1 y1 ⊢
  have e1 : x + h - h = x := by omega
  have e2 : y + h - h = y := by omega
  refine ⟨?_, ?_, ?_, ?_⟩
  · rw [eq, if_pos y1, if_pos x1]
  · rw [eq, if_pos y1, if_neg (by omega), e1]
  · rw [eq, if_neg (by omega), if_pos x1, e2]
  · rw [eq, if_neg (by omega), if_neg (by omega), e1, e2]
theorem mem_wi : ∀ {S : Sq}, S.wf → ∀ (x y : Int) (t : List Int), t ∈ wi S x y ↔ ∃ i j : Int, 0 ≤ i ∧ i < 2 ^ S.level ∧ 0 ≤ j ∧ j < 2 ^ S.level ∧ S.get i j ≠ 0 ∧ t = [y + j, x + i, S.get i j]
  | .leaf s, _, x, y, t => by
    show t ∈ (if s = 0 then [] else [[y, x, s]] : List (List Int)) ↔ ∃ i j : Int, 0 ≤ i ∧ i < 1 ∧ 0 ≤ j ∧ j < 1 ∧ s ≠ 0 ∧ t = [y + j, x + i, s]
    constructor
    · intro h
      by_cases z : s = 0
      · rw [if_pos z] at h; cases h
      · rw [if_neg z, List.mem_singleton] at h
        exact ⟨0, 0, by decide, by decide, by decide, by decide, z, by rw [h, Int.add_zero, Int.add_zero]⟩
    · rintro ⟨i, j, i0, i1, j0, j1, z, rfl⟩
      obtain rfl : i = 0 := by omega
      obtain rfl : j = 0 := by omega
      rw [if_neg z, Int.add_zero, Int.add_zero]
      exact List.mem_singleton.mpr rfl
  | .node a b c d, w, x, y, t => by
    obtain ⟨wa, wb, wc, wd, e1, e2, e3⟩ := id w
    have ia := mem_wi wa x y t
    have ib := mem_wi wb (x + 2 ^ a.level) y t
    have ic := mem_wi wc x (y + 2 ^ a.level) t
    have id' := mem_wi wd (x + 2 ^ a.level) (y + 2 ^ a.level) t
    rw [e1] at ib; rw [e2] at ic; rw [e3] at id'
    have el : (2 : Int) ^ (Sq.node a b c d).level = 2 * 2 ^ a.level := Sq.two_succ _
    have hp := Sq.two_pos a.level
    have g := fun {u v : Int} (u0 : 0 ≤ u) (u1 : u < 2 ^ a.level) (v0 : 0 ≤ v) (v1 : v < 2 ^ a.level) => get_nodeW w u0 u1 v0 v1
    rw [el]
    show t ∈ wi a x y ++ wi b (x + 2 ^ a.level) y ++ wi c x (y + 2 ^ a.level) ++ wi d (x + 2 ^ a.level) (y + 2 ^ a.level) ↔ _
    rw [List.mem_append, List.mem_append, List.mem_append, ia, ib, ic, id']
    generalize (2 : Int) ^ a.level = h at *
    constructor
    · rintro (((⟨i, j, i0, i1, j0, j1, z, rfl⟩ | ⟨i, j, i0, i1, j0, j1, z, rfl⟩) | ⟨i, j, i0, i1, j0, j1, z, rfl⟩) | ⟨i, j, i0, i1, j0, j1, z, rfl⟩)
      · refine ⟨i, j, i0, by omega, j0, by omega, ?_, ?_⟩
        · rw [(g i0 i1 j0 j1).1]; exact z
        · rw [(g i0 i1 j0 j1).1]
      · refine ⟨i + h, j, by omega, by omega, j0, by omega, ?_, ?_⟩
        · rw [(g i0 i1 j0 j1).2.1]; exact z
        · rw [(g i0 i1 j0 j1).2.1, show x + h + i = x + (i + h) by omega]
      · refine ⟨i, j + h, i0, by omega, by omega, by omega, ?_, ?_⟩
        · rw [(g i0 i1 j0 j1).2.2.1]; exact z
        · rw [(g i0 i1 j0 j1).2.2.1, show y + h + j = y + (j + h) by omega]
      · refine ⟨i + h, j + h, by omega, by omega, by omega, by omega, ?_, ?_⟩
        · rw [(g i0 i1 j0 j1).2.2.2]; exact z
        · rw [(g i0 i1 j0 j1).2.2.2, show y + h + j = y + (j + h) by omega, show x + h + i = x + (i + h) by omega]
    · rintro ⟨i, j, i0, i1, j0, j1, z, rfl⟩
      by_cases ci : i < h <;> by_cases cj : j < h
      · rw [(g i0 ci j0 cj).1] at z ⊢
        exact .inl (.inl (.inl ⟨i, j, i0, ci, j0, cj, z, rfl⟩))
      · have q := (g i0 ci (show 0 ≤ j - h by omega) (by omega)).2.2.1
        rw [Int.sub_add_cancel] at q
        rw [q] at z ⊢
        exact .inl (.inr ⟨i, j - h, i0, ci, by omega, by omega, z, by rw [show y + h + (j - h) = y + j by omega]⟩)
      · have q := (g (show 0 ≤ i - h by omega) (by omega) j0 cj).2.1
        rw [Int.sub_add_cancel] at q
        rw [q] at z ⊢
        exact .inl (.inl (.inr ⟨i - h, j, by omega, by omega, j0, cj, z, by rw [show x + h + (i - h) = x + i by omega]⟩))
      · have q := (g (show 0 ≤ i - h by omega) (by omega) (show 0 ≤ j - h by omega) (by omega)).2.2.2
        rw [Int.sub_add_cancel, Int.sub_add_cancel] at q
        rw [q] at z ⊢
        exact .inr ⟨i - h, j - h, by omega, by omega, by omega, by omega, z, by rw [show y + h + (j - h) = y + j by omega, show x + h + (i - h) = x + i by omega]⟩
theorem wi_nodup : ∀ {S : Sq}, S.wf → ∀ x y : Int, (wi S x y).Nodup
  | .leaf s, _, x, y => by
    show (if s = 0 then [] else [[y, x, s]] : List (List Int)).Nodup
    split <;> simp
  | .node a b c d, w, x, y => by
    obtain ⟨wa, wb, wc, wd, e1, e2, e3⟩ := id w
    have ia := mem_wi wa x y
    have ib := mem_wi wb (x + 2 ^ a.level) y
    have ic := mem_wi wc x (y + 2 ^ a.level)
    have id' := mem_wi wd (x + 2 ^ a.level) (y + 2 ^ a.level)
    have na := wi_nodup wa x y
    have nb := wi_nodup wb (x + 2 ^ a.level) y
    have nc := wi_nodup wc x (y + 2 ^ a.level)
    have nd := wi_nodup wd (x + 2 ^ a.level) (y + 2 ^ a.level)
    rw [e1] at ib; rw [e2] at ic; rw [e3] at id'
    show (wi a x y ++ wi b (x + 2 ^ a.level) y ++ wi c x (y + 2 ^ a.level) ++ wi d (x + 2 ^ a.level) (y + 2 ^ a.level)).Nodup
    generalize (2 : Int) ^ a.level = h at *
    rw [List.nodup_append, List.nodup_append, List.nodup_append]
    refine ⟨⟨⟨na, nb, fun t ht u hu e => ?_⟩, nc, fun t ht u hu e => ?_⟩, nd, fun t ht u hu e => ?_⟩
    · subst e
      obtain ⟨i, j, i0, i1, j0, j1, _, rfl⟩ := (ia t).mp ht
      obtain ⟨i', j', i0', i1', j0', j1', _, e⟩ := (ib _).mp hu
      simp only [List.cons.injEq, and_true] at e
      omega
    · subst e
      obtain ⟨i', j', i0', i1', j0', j1', _, rfl⟩ := (ic t).mp hu
      rcases List.mem_append.mp ht with ht | ht
      · obtain ⟨i, j, i0, i1, j0, j1, _, e⟩ := (ia _).mp ht
        simp only [List.cons.injEq, and_true] at e
        omega
      · obtain ⟨i, j, i0, i1, j0, j1, _, e⟩ := (ib _).mp ht
        simp only [List.cons.injEq, and_true] at e
        omega
    · subst e
      obtain ⟨i', j', i0', i1', j0', j1', _, rfl⟩ := (id' t).mp hu
      rcases List.mem_append.mp ht with ht | ht
      · rcases List.mem_append.mp ht with ht | ht
        · obtain ⟨i, j, i0, i1, j0, j1, _, e⟩ := (ia _).mp ht
          simp only [List.cons.injEq, and_true] at e
          omega
        · obtain ⟨i, j, i0, i1, j0, j1, _, e⟩ := (ib _).mp ht
          simp only [List.cons.injEq, and_true] at e
          omega
      · obtain ⟨i, j, i0, i1, j0, j1, _, e⟩ := (ic _).mp ht
        simp only [List.cons.injEq, and_true] at e
        omega
/-- the living cells of a square about the middle -/
def Sq.cells (S : Sq) : List (List Int) := wi S (-S.half) (-S.half)
theorem mem_cells {S : Sq} (w : S.wf) (h : 1 ≤ S.level) (t : List Int) : t ∈ S.cells ↔ ∃ x y : Int, S.val x y ≠ 0 ∧ t = [y, x, S.val x y] := by
  unfold Sq.cells
  rw [mem_wi w, half_two h]
  constructor
  · rintro ⟨i, j, i0, i1, j0, j1, z, rfl⟩
    have e : S.val (-S.half + i) (-S.half + j) = S.get i j := by
      unfold Sq.val
      rw [if_pos (by omega), show -S.half + i + S.half = i by omega, show -S.half + j + S.half = j by omega]
    exact ⟨-S.half + i, -S.half + j, by rw [e]; exact z, by rw [e]⟩
  · rintro ⟨x, y, z, rfl⟩
    unfold Sq.val at z ⊢
    by_cases c : -S.half ≤ x ∧ x < S.half ∧ -S.half ≤ y ∧ y < S.half
    · rw [if_pos c] at z ⊢
      exact ⟨x + S.half, y + S.half, by omega, by omega, by omega, by omega, z, by rw [show -S.half + (y + S.half) = y by omega, show -S.half + (x + S.half) = x by omega]⟩
    · rw [if_neg c] at z; exact absurd rfl z
theorem cells_nodup {S : Sq} (w : S.wf) : S.cells.Nodup := wi_nodup w _ _
theorem wi_three : ∀ (S : Sq) (x y : Int), ∀ t ∈ wi S x y, t.length = 3
  | .leaf s, x, y, t, h => by
    have h' : t ∈ (if s = 0 then [] else [[y, x, s]] : List (List Int)) := h
    split at h'
    · cases h'
    · rw [List.mem_singleton] at h'; rw [h']; rfl
  | .node a b c d, x, y, t, h => by
    rcases List.mem_append.mp h with h | h
    · rcases List.mem_append.mp h with h | h
      · rcases List.mem_append.mp h with h | h
        · exact wi_three a _ _ t h
        · exact wi_three b _ _ t h
      · exact wi_three c _ _ t h
    · exact wi_three d _ _ t h
/-! #### what is remembered by numbers of squares -/
/-- each number once, each answer right -/
structure KQ (q : List Sq) (R : Sq → V → Prop) (kvs : List (Key × V)) : Prop where
  nd : (kvs.map Prod.fst).Nodup
  ok : ∀ e ∈ kvs, ∃ (n : Nat) (S : Sq), e.1 = Sum.inl (n : Int) ∧ q[n]? = some S ∧ R S e.2
theorem KQ.nil {q : List Sq} {R : Sq → V → Prop} : KQ q R [] := ⟨by simp, fun e h => by cases h⟩
theorem KQ.pre {q q' : List Sq} {R R' : Sq → V → Prop} {kvs : List (Key × V)} (h : KQ q R kvs) (p : q <+: q') (k : ∀ S v, R S v → R' S v) : KQ q' R' kvs := ⟨h.nd, fun e he => let ⟨n, S, a, b, c⟩ := h.ok e he; ⟨n, S, a, pre_get p b, k _ _ c⟩⟩
theorem valV_mem {κ : Type} [DecidableEq κ] {kvs : List (κ × V)} {k : κ} {v : V} (h : valV kvs k = some v) : (k, v) ∈ kvs := by
  unfold valV at h
  cases e : kvs.find? (fun p => decide (p.1 = k)) with
  | none => rw [e] at h; cases h
  | some p =>
    rw [e] at h
    cases h
    have h1 := List.find?_some e
    have h2 := List.mem_of_find?_eq_some e
    have : p.1 = k := of_decide_eq_true h1
    rw [← this]
    exact h2
theorem valV_nonek {κ : Type} [DecidableEq κ] {kvs : List (κ × V)} {k : κ} (h : valV kvs k = none) : k ∉ kvs.map Prod.fst := fun z => by
  obtain ⟨p, hp, e⟩ := List.mem_map.mp z
  unfold valV at h
  cases e2 : kvs.find? (fun p => decide (p.1 = k)) with
  | none =>
    have := List.find?_eq_none.mp e2 p hp
    exact this (decide_eq_true e)
  | some p => rw [e2] at h; cases h
theorem KQ.at {q : List Sq} {R : Sq → V → Prop} {kvs : List (Key × V)} (h : KQ q R kvs) {n : Nat} {S : Sq} {v : V} (hn : q[n]? = some S) (e : valV kvs (Sum.inl (n : Int)) = some v) : R S v := by
  obtain ⟨n', S', a, b, c⟩ := h.ok _ (valV_mem e)
  have : n = n' := by have a' : (Sum.inl (n : Int) : Key) = Sum.inl (n' : Int) := a; injection a' with a'; omega
  subst this
  rw [hn] at b; cases b
  exact c
theorem KQ.put {q : List Sq} {R : Sq → V → Prop} {kvs : List (Key × V)} (h : KQ q R kvs) {n : Nat} {S : Sq} {v : V} (hn : q[n]? = some S) (e : valV kvs (Sum.inl (n : Int)) = none) (hv : R S v) : KQ q R (putK kvs (Sum.inl (n : Int)) v) ∧ putK kvs (Sum.inl (n : Int)) v = kvs ++ [(Sum.inl (n : Int), v)] := by
  have ep : putK kvs (Sum.inl (n : Int)) v = kvs ++ [(Sum.inl (n : Int), v)] := putK_new _ e
  refine ⟨?_, ep⟩
  rw [ep]
  refine ⟨?_, fun x hx => ?_⟩
  · rw [List.map_append, List.nodup_append]
    refine ⟨h.nd, by simp, fun a ha b hb z => ?_⟩
    simp only [List.map_cons, List.map_nil, List.mem_singleton] at hb
    rw [z, hb] at ha
    exact valV_nonek e ha
  · rcases List.mem_append.mp hx with hx | hx
    · exact h.ok x hx
    · rw [List.mem_singleton] at hx
      subst hx
      exact ⟨n, S, rfl, hn, hv⟩
theorem KQ.put2 {q : List Sq} {R : Sq → V → Prop} {kvs : List (Key × V)} (h : KQ q R kvs) {n : Nat} {S : Sq} {v : V} (hn : q[n]? = some S) (hv : R S v) : KQ q R (putK kvs (Sum.inl (n : Int)) v) := by
  cases e : valV kvs (Sum.inl (n : Int)) with
  | none => exact (h.put hn e hv).1
  | some u =>
    have ep : putK kvs (Sum.inl (n : Int)) v = kvs.map fun kv => if kv.1 = Sum.inl (n : Int) then (kv.1, v) else kv := by
      unfold putK
      rw [valV_any, e]
      rfl
    rw [ep]
    refine ⟨?_, fun x hx => ?_⟩
    · rw [List.map_map]
      have em : (Prod.fst ∘ fun kv : Key × V => if kv.1 = Sum.inl (n : Int) then (kv.1, v) else kv) = Prod.fst := by
        funext kv
        show (if kv.1 = Sum.inl (n : Int) then (kv.1, v) else kv).1 = kv.1
        split <;> rfl
      rw [em]; exact h.nd
    · obtain ⟨y, hy, rfl⟩ := List.mem_map.mp hx
      by_cases z : y.1 = Sum.inl (n : Int)
      · rw [if_pos z]; exact ⟨n, S, z, hn, hv⟩
      · rw [if_neg z]; exact h.ok y hy
theorem KQ.len {q : List Sq} {R : Sq → V → Prop} {kvs : List (Key × V)} (h : KQ q R kvs) : kvs.length ≤ q.length := by
  have := nodup_sub_len (kvs.map Prod.fst) ((List.range q.length).map fun n : Nat => (Sum.inl (n : Int) : Key)) h.nd fun x hx => by
    obtain ⟨e, he, rfl⟩ := List.mem_map.mp hx
    obtain ⟨n, S, a, b, _⟩ := h.ok e he
    rw [a]
    exact List.mem_map.mpr ⟨n, List.mem_range.mpr (List.getElem?_eq_some_iff.mp b).1, rfl⟩
  rw [List.length_map, List.length_map, List.length_range] at this
  exact this
/-- but for one object all is as it was -/
def But (d : Addr) (H H' : Hp) : Prop := ∀ b o, H b = some o → b ≠ d → H' b = some o
theorem But.refl (d : Addr) (H : Hp) : But d H H := fun _ _ e _ => e
theorem But.trans {d : Addr} {H H1 H2 : Hp} (x : But d H H1) (y : But d H1 H2) : But d H H2 := fun b o e n => y b o (x b o e n) n
theorem But.of {d : Addr} {H H' : Hp} (s : Same H H') : But d H H' := fun b o e _ => s b o e
theorem But.put {d : Addr} {H : Hp} (o : HO) : But d H (upd H d o) := fun b u e n => by rw [upd_ne n]; exact e
theorem But.tup {d : Addr} {H H' : Hp} {kvs : List (Key × V)} (x : But d H H') (hd : H d = some (.dK kvs)) : Tup H H' := fun b ys e => x b _ e fun z => by rw [z, hd] at e; cases e
theorem GAt.but {C d : Addr} {H H' : Hp} {a : GA} {rows : List (Int × Addr)} {q : List Sq} {kvs : List (Key × V)} (G : GAt C H a rows q) (x : But d H H') (hd : H d = some (.dK kvs)) (out : d ∉ a.muts rows) : GAt C H' a rows q :=
  G.keep fun b o e z => x b o e fun y => by
    subst y
    rcases z with z | z
    · rw [hd] at e; cases e; exact z
    · exact out z
theorem But.same {d : Addr} {H H' : Hp} (x : But d H H') (hd : H d = none) : Same H H' := fun b o e => x b o e (ne_of_none e hd)
theorem TL.keep {H H' : Hp} {p : Addr} {xs : List (List Int)} (h : TL H p xs) (t : Tup H H') (e : ∀ o, H p = some o → H' p = some o) : TL H' p xs := let ⟨rs, a, b⟩ := h; ⟨rs, e _ a, b.keep t⟩
abbrev Rcnt : Sq → V → Prop := fun S v => v = .int S.lives
theorem rd_dnotin {σ : L2.St} {H : Hp} {Q : VK} {td ty : TE} (h : ty σ H fun y H1 => td σ H1 fun x H2 => ∃ a o, x = .ref a ∧ DGet H2 a y o ∧ Q (.bl (!o.isSome)) H2) : tDNotIn ty td σ H Q := h
section
variable {P : Program} {w : World} {K : PySem.W.Frag} {mg : Str → Option Value} {base : Heap}
def sp_count (C : Addr) (L : Nat) : Sp := fun vs H Q _ => ∃ (a : GA) (rows : List (Int × Addr)) (q : List Sq) (n : Nat) (S : Sq) (pk : Addr) (kvs : List (Key × V)), vs = [.ref a.g, .int (n : Int), .ref pk] ∧ GAt C H a rows q ∧ q[n]? = some S ∧ S.level ≤ L ∧ q.length ≤ 15000000 ∧ H pk = some (.dK kvs) ∧ pk ∉ a.muts rows ∧ KQ q Rcnt kvs ∧
  ∀ H' kvs', But pk H H' → H' pk = some (.dK kvs') → KQ q Rcnt kvs' → Q (.int S.lives) H'
theorem mp_count {C : Addr} {L : Nat} : MonP (sp_count C L) := fun vs H Q Q' E h ⟨a, rows, q, n, S, pk, kvs, x1, x2, x3, x4, x5, x6, x7, x8, k⟩ => ⟨a, rows, q, n, S, pk, kvs, x1, x2, x3, x4, x5, x6, x7, x8, fun H' kvs' b c d => h _ _ (k H' kvs' b c d)⟩
theorem no_count (T : Env fa fn K mg) : Good P w K mg base CX0 1 ("_law_count", none) ["_law_grove", "_law_square", "_law_known"] (fun _ _ _ _ => False) := by
  refine good_mk T 39 (d := d_w_count) (N := ["_law_grove", "_law_square", "_law_known", "_law_one"]) (ps := ["_law_grove", "_law_square", "_law_known"]) rfl rfl sc_w_count (fun _ _ _ _ _ _ us hl => match us, hl with | [_, _, _], _ => rfl) (fun vs H Q E h => h.elim) (fun f cdv A outer σ0 H vs Q E hr h => h.elim)
set_option maxHeartbeats 8000000 in
theorem ok_count (T : Env fa fn K mg) : ∀ L : Nat, Good P w K mg base CX0 (5 + L) ("_law_count", none) ["_law_grove", "_law_square", "_law_known"] (sp_count (CG K) L) := by
  have G_Grove_level_of := ok_level_of (P := P) (w := w) (base := base) T
  have G_Grove_quarters := ok_quarters (P := P) (w := w) (base := base) T
  have G_Grove_state_of := ok_state_of (P := P) (w := w) (base := base) T
  have hsz := sizeBig
  have leaf_lives : ∀ s : Int, 0 ≤ s → (if decide (s > 0) = true then (1 : Int) else 0) = (Sq.leaf s).lives := fun s h => by
    show _ = (if s = 0 then 0 else 1 : Int)
    by_cases z : s = 0
    · rw [if_pos z, z]; rfl
    · rw [if_neg z, decide_eq_true (by omega)]; rfl
  intro L
  induction L with
  | zero =>
    have G_w_count := no_count (P := P) (w := w) (base := base) T
    refine good_mk T 39 (d := d_w_count) (N := ["_law_grove", "_law_square", "_law_known", "_law_one"]) (ps := ["_law_grove", "_law_square", "_law_known"]) rfl rfl sc_w_count (fun _ _ _ _ _ _ us hl => match us, hl with | [_, _, _], _ => rfl) (fun vs H Q E h => ?_) (fun f cdv A outer σ0 H vs Q E hr h => ?_)
    · obtain ⟨a, rows, q, n, S, pk, kvs, rfl, _⟩ := h; rfl
    · obtain ⟨a, rows, q, n, S, pk, kvs, rfl, G, hn, hL, hq, hpk, out, hK, k⟩ := h
      have hu := hu_of hr
      refine ⟨_, (pss_cons (ps_if (pt_cmp (pc_dnotin hu (pv 1) (pv 2))) (pss_one (ps_if (pt_cmpR op_eq (pe_mgK K rfl (pv 0) (T.cls 13) (T.meth 25) G_Grove_level_of (hr.mono (by decide)) (pa_cons (pv 1) pa_nil)) pe_int (nomark _)) (pss_one (ps_dput hu (pv 2) (pv 1) (pe_callTy call_int1 (by rfl) (T.free 2) (by decide +kernel) (pa_cons (pe_cmpR op_gt (pe_mgK K rfl (pv 0) (T.cls 13) (T.meth 54) G_Grove_state_of (hr.mono (by decide)) (pa_cons (pv 1) pa_nil)) pe_int (nomark _)) pa_nil)) rfl)) (pss_one (ps_dput hu (pv 2) (pv 1) (pe_callB (cr_sumK K rfl rfl) (by rfl) (T.free 56) (by decide +kernel) (pa_cons (pe_lc (own := [("_law_one", 3)]) (tt := tYes) rfl sc_w_count.nd (pi_tupK K rfl (pe_mgK K rfl (pv 0) (T.cls 13) (T.meth 23) G_Grove_quarters (hr.mono (by decide)) (pa_cons (pv 1) pa_nil))) (blkOk_by (own := [("_law_one", 3)]) (N := ["_law_grove", "_law_square", "_law_known", "_law_one"]) (sc := defScope st_w_count) (by decide +kernel)) (fun _ _ _ _ _ => by exact (pg_name (i := 3) sc_w_count.nd rfl (Or.inl rfl))) (fun _ _ _ _ _ => by exact pts_nil) (fun _ _ _ _ _ => by exact (pe_cgK K rfl G_w_count (hr.mono (by decide)) (T.glo 55) (pa_cons (pv 0) (pa_cons (pv 3) (pa_cons (pv 2) pa_nil)))))) pa_nil)) rfl)))) pss_nil)
      (pss_one (ps_ret (pe_dget hu (pv 2) (pv 1) (fun _ _ => rfl))))), ?_⟩
      cases S with
      | node A' B C' D => exact absurd (Nat.le_zero.mp hL) (Nat.succ_ne_zero _)
      | leaf s =>
      have hs := G.wf _ (List.mem_of_getElem? hn)
      walk_at "rd"
      refine rd_dnotin ?_
      walk_at "rd"
      refine ⟨pk, _, rfl, DGet.k (k := Sum.inl (n : Int)) hpk, ?_⟩
      cases hv : valV kvs (Sum.inl (n : Int)) with
      | some v =>
        have e := hK.at hn hv
        subst e
        walk_at "rd"
        refine iteF ?_
        walk_at "rd"
        refine ⟨pk, _, rfl, by rw [← hv]; exact DGet.k (k := Sum.inl (n : Int)) hpk, ?_⟩
        exact k H kvs (But.refl _ _) hpk hK
      | none =>
        walk_at "rd"
        refine iteT ?_
        walk_at "rd"
        refine rd_methR G.ob (by rfl) ?_
        walk_at "rd"
        refine ⟨a, rows, q, n, _, rfl, G, hn, by omega, ?_⟩
        walk_at "rd"
        refine iteT ?_
        walk_at "rd"
        refine rd_methR G.ob (by rfl) ?_
        walk_at "rd"
        refine ⟨a, rows, q, n, s, rfl, G, hn, by omega, ?_⟩
        walk_at "rd"
        refine .inr ⟨_, rfl, ?_⟩
        rw [leaf_lives s hs.1]
        have hl := hK.len
        walk_at "rd"
        refine ⟨pk, _, rfl, DPut.k (k := Sum.inl (n : Int)) hpk (by omega), ?_⟩
        obtain ⟨K1, _⟩ := hK.put hn hv (v := .int (Sq.leaf s).lives) rfl
        walk_at "rd"
        refine ⟨pk, .int (Sq.leaf s).lives, rfl, ?_, ?_⟩
        · have := DGet.k (H := upd H pk (.dK (putK kvs (Sum.inl (n : Int)) (.int (Sq.leaf s).lives)))) (a := pk) (k := Sum.inl (n : Int)) upd_same
          rw [valV_put, if_pos rfl] at this
          exact this
        · exact k _ _ (But.put _) upd_same K1
  | succ L ih =>
    have G_w_count := ih
    refine good_mk T 39 (d := d_w_count) (N := ["_law_grove", "_law_square", "_law_known", "_law_one"]) (ps := ["_law_grove", "_law_square", "_law_known"]) rfl rfl sc_w_count (fun _ _ _ _ _ _ us hl => match us, hl with | [_, _, _], _ => rfl) (fun vs H Q E h => ?_) (fun f cdv A outer σ0 H vs Q E hr h => ?_)
    · obtain ⟨a, rows, q, n, S, pk, kvs, rfl, _⟩ := h; rfl
    · obtain ⟨a, rows, q, n, S, pk, kvs, rfl, G, hn, hL, hq, hpk, out, hK, k⟩ := h
      have hu := hu_of hr
      refine ⟨_, (pss_cons (ps_if (pt_cmp (pc_dnotin hu (pv 1) (pv 2))) (pss_one (ps_if (pt_cmpR op_eq (pe_mgK K rfl (pv 0) (T.cls 13) (T.meth 25) G_Grove_level_of (hr.mono (by show _ ≤ 5 + L; omega)) (pa_cons (pv 1) pa_nil)) pe_int (nomark _)) (pss_one (ps_dput hu (pv 2) (pv 1) (pe_callTy call_int1 (by rfl) (T.free 2) (by decide +kernel) (pa_cons (pe_cmpR op_gt (pe_mgK K rfl (pv 0) (T.cls 13) (T.meth 54) G_Grove_state_of (hr.mono (by show _ ≤ 5 + L; omega)) (pa_cons (pv 1) pa_nil)) pe_int (nomark _)) pa_nil)) rfl)) (pss_one (ps_dput hu (pv 2) (pv 1) (pe_callB (cr_sumK K rfl rfl) (by rfl) (T.free 56) (by decide +kernel) (pa_cons (pe_lc (own := [("_law_one", 3)]) (tt := tYes) rfl sc_w_count.nd (pi_tupK K rfl (pe_mgK K rfl (pv 0) (T.cls 13) (T.meth 23) G_Grove_quarters (hr.mono (by show _ ≤ 5 + L; omega)) (pa_cons (pv 1) pa_nil))) (blkOk_by (own := [("_law_one", 3)]) (N := ["_law_grove", "_law_square", "_law_known", "_law_one"]) (sc := defScope st_w_count) (by decide +kernel)) (fun _ _ _ _ _ => by exact (pg_name (i := 3) sc_w_count.nd rfl (Or.inl rfl))) (fun _ _ _ _ _ => by exact pts_nil) (fun _ _ _ _ _ => by exact (pe_cgK K rfl G_w_count (hr.mono (by show _ ≤ 5 + L; omega)) (T.glo 55) (pa_cons (pv 0) (pa_cons (pv 3) (pa_cons (pv 2) pa_nil)))))) pa_nil)) rfl)))) pss_nil)
      (pss_one (ps_ret (pe_dget hu (pv 2) (pv 1) (fun _ _ => rfl))))), ?_⟩
      walk_at "rd"
      refine rd_dnotin ?_
      walk_at "rd"
      refine ⟨pk, _, rfl, DGet.k (k := Sum.inl (n : Int)) hpk, ?_⟩
      cases hv : valV kvs (Sum.inl (n : Int)) with
      | some v =>
        have e := hK.at hn hv
        subst e
        walk_at "rd"
        refine iteF ?_
        walk_at "rd"
        refine ⟨pk, _, rfl, by rw [← hv]; exact DGet.k (k := Sum.inl (n : Int)) hpk, ?_⟩
        exact k H kvs (But.refl _ _) hpk hK
      | none =>
        walk_at "rd"
        refine iteT ?_
        walk_at "rd"
        refine rd_methR G.ob (by rfl) ?_
        walk_at "rd"
        refine ⟨a, rows, q, n, _, rfl, G, hn, by omega, ?_⟩
        cases S with
        | leaf s =>
          have hs := G.wf _ (List.mem_of_getElem? hn)
          walk_at "rd"
          refine iteT ?_
          walk_at "rd"
          refine rd_methR G.ob (by rfl) ?_
          walk_at "rd"
          refine ⟨a, rows, q, n, s, rfl, G, hn, by omega, ?_⟩
          walk_at "rd"
          refine .inr ⟨_, rfl, ?_⟩
          rw [leaf_lives s hs.1]
          have hl := hK.len
          walk_at "rd"
          refine ⟨pk, _, rfl, DPut.k (k := Sum.inl (n : Int)) hpk (by omega), ?_⟩
          obtain ⟨K1, _⟩ := hK.put hn hv (v := .int (Sq.leaf s).lives) rfl
          walk_at "rd"
          refine ⟨pk, .int (Sq.leaf s).lives, rfl, ?_, ?_⟩
          · have := DGet.k (H := upd H pk (.dK (putK kvs (Sum.inl (n : Int)) (.int (Sq.leaf s).lives)))) (a := pk) (k := Sum.inl (n : Int)) upd_same
            rw [valV_put, if_pos rfl] at this
            exact this
          · exact k _ _ (But.put _) upd_same K1
        | node A' B' C' D' =>
          have hlv : (Sq.node A' B' C' D').level = A'.level + 1 := rfl
          have wS := G.wf _ (List.mem_of_getElem? hn)
          obtain ⟨wa, wb, wc, wd, ee1, ee2, ee3⟩ := wS
          walk_at "rd"
          rw [decide_eq_false (by rw [hlv]; omega)]
          walk_at "rd"
          refine rd_methR G.ob (by rfl) ?_
          walk_at "rd"
          refine ⟨a, rows, q, n, _, _, _, _, rfl, G, hn, by omega, fun t x1 x2 x3 x4 ht e1 e2 e3 e4 => ?_⟩
          refine ⟨t, rfl, ⟨_, SqT.of ht⟩, fun D hD => ?_⟩
          have Dpk : D ≠ pk := fun z => by rw [z, hpk] at hD; cases hD
          refine lc_it (walk_tup (K := K) (a := t) (xs := [V.int (x1 : Int), .int (x2 : Int), .int (x3 : Int), .int (x4 : Int)])) (fun i H' => ∃ kvs', (∀ b o, H b = some o → b ≠ pk → H' b = some o) ∧ H' pk = some (.dK kvs') ∧ KQ q Rcnt kvs' ∧ H' D = some (.lst (([A'.lives, B'.lives, C'.lives, D'.lives].take i).map V.int))) ⟨kvs, fun b o e _ => same_upd hD _ _ e, by rw [upd_ne Dpk.symm]; exact hpk, hK, upd_same⟩ (fun i H' _ h => ?_) ?_ ?_
          · obtain ⟨kvs', f, _⟩ := h
            exact SqT.of (f _ _ ht fun z => by rw [z, hpk] at ht; cases ht)
          · rintro i v Ha Hb hi ⟨kvs', fb, hpk', hK', LD⟩ ⟨rfl, hv'⟩
            have hi4 : i < 4 := hi
            obtain ⟨m, T', rfl, hm, hl', hT⟩ : ∃ (m : Nat) (T' : Sq), v = .int (m : Int) ∧ q[m]? = some T' ∧ T'.level ≤ L ∧ [A'.lives, B'.lives, C'.lives, D'.lives][i]? = some T'.lives := by
              match i, hi4, hv' with
              | 0, _, hv' => exact ⟨x1, A', (Option.some.inj hv').symm, e1, by omega, rfl⟩
              | 1, _, hv' => exact ⟨x2, B', (Option.some.inj hv').symm, e2, by omega, rfl⟩
              | 2, _, hv' => exact ⟨x3, C', (Option.some.inj hv').symm, e3, by omega, rfl⟩
              | 3, _, hv' => exact ⟨x4, D', (Option.some.inj hv').symm, e4, by omega, rfl⟩
            walk_at "rd"
            refine ⟨rfl, ?_⟩
            walk_at "rd"
            refine ⟨a, rows, q, m, T', pk, kvs', rfl, G.but fb hpk out, hm, hl', hq, hpk', out, hK', fun H2 kvs2 f2 hpk2 hK2 => ?_⟩
            have LD2 := f2 _ _ LD Dpk
            refine ⟨_, LD2, by rw [List.length_map, List.length_take]; exact small1000 (by show min i 4 ≤ 1000; omega), kvs2, fun b o e n => ?_, by rw [upd_ne Dpk.symm]; exact hpk2, hK2, by rw [upd_same, take_snoc hT, List.map_append]; rfl⟩
            rw [upd_ne (ne_of_none e hD)]
            exact f2 _ _ (fb _ _ e n) n
          rintro H2 ⟨kvs2, f2, hpk2, hK2, L2⟩
          walk_at "rd"
          refine ⟨D, _, rfl, SqL.of L2, ?_⟩
          have es : (([A'.lives, B'.lives, C'.lives, D'.lives].take 4)).sum = (Sq.node A' B' C' D').lives := by
            show ([A'.lives, B'.lives, C'.lives, D'.lives] : List Int).sum = A'.lives + B'.lives + C'.lives + D'.lives
            simp only [List.sum_cons, List.sum_nil]
            omega
          have es' : (List.take [V.int (x1 : Int), V.int (x2 : Int), V.int (x3 : Int), V.int (x4 : Int)].length [A'.lives, B'.lives, C'.lives, D'.lives]).sum = (Sq.node A' B' C' D').lives := es
          rw [es']
          have hl := hK2.len
          walk_at "rd"
          refine ⟨pk, _, rfl, DPut.k (k := Sum.inl (n : Int)) hpk2 (by omega), ?_⟩
          have K3 : KQ q Rcnt (putK kvs2 (Sum.inl (n : Int)) (.int (Sq.node A' B' C' D').lives)) := hK2.put2 hn rfl
          walk_at "rd"
          refine ⟨pk, .int (Sq.node A' B' C' D').lives, rfl, ?_, ?_⟩
          · have := DGet.k (H := upd H2 pk (.dK (putK kvs2 (Sum.inl (n : Int)) (.int (Sq.node A' B' C' D').lives)))) (a := pk) (k := Sum.inl (n : Int)) upd_same
            rw [valV_put, if_pos rfl] at this
            exact this
          · exact k _ _ ((show But pk H H2 from f2).trans (But.put _)) upd_same K3
end
end JF

/-! ### fields walked down by quarters: the walk, drawn cells -/
namespace JF
open PySem PySem.Spec PyProof.Rows L2
/-- how many cells live in the outer parts of a square's quarters -/
def prt (S : Sq) (k j : Nat) : Sq := match S with
  | .node a b c d => (match ([a, b, c, d].getD k (.leaf 0)) with
    | .node e f g h => [e, f, g, h].getD j (.leaf 0)
    | .leaf _ => .leaf 0)
  | .leaf _ => .leaf 0
def oS (S : Sq) (k : Nat) : Nat → Int
  | 0 => 0
  | j + 1 => oS S k j + (if j = 3 - k then 0 else (prt S k j).lives)
def oT (S : Sq) : Nat → Int
  | 0 => 0
  | k + 1 => oT S k + oS S k 4
theorem oT_lives {S : Sq} (w : S.wf) (h : 2 ≤ S.level) : oT S 4 = S.lives - S.mid.lives := by
  obtain ⟨a1, a2, a3, a4, b1, b2, b3, b4, c1, c2, c3, c4, d1, d2, d3, d4, rfl⟩ := Sq.mid_form w h
  show (0 : Int) + (0 + a1.lives + a2.lives + a3.lives + 0) + (0 + b1.lives + b2.lives + 0 + b4.lives) + (0 + c1.lives + 0 + c3.lives + c4.lives) + (0 + 0 + d2.lives + d3.lives + d4.lives) = _
  simp only [Sq.lives, Sq.mid]
  omega
theorem flat_take {α : Type} (l : List (List α)) (i : Nat) : (l.take i).flatten.length ≤ l.flatten.length := by
  have e : l.flatten = (l.take i).flatten ++ (l.drop i).flatten := by rw [← List.flatten_append, List.take_append_drop]
  rw [e, List.length_append]
  omega
theorem flat_snoc {α : Type} {l : List (List α)} {i : Nat} {x : List α} (h : l[i]? = some x) : (l.take (i + 1)).flatten = (l.take i).flatten ++ x := by
  rw [take_snoc h, List.flatten_append]; simp
theorem TR.cat {H : Hp} : ∀ {rs rs' : List Addr} {xs xs' : List (List Int)}, TR H rs xs → TR H rs' xs' → TR H (rs ++ rs') (xs ++ xs')
  | [], _, [], _, _, h => h
  | r :: rs, _, x :: xs, _, h, h' => ⟨h.1, TR.cat h.2 h'⟩
  | [], _, _ :: _, _, h, _ => h.elim
  | _ :: _, _, [], _, h, _ => h.elim
/-- the rows of a dict by places -/
def rowE (e : List Key × V) : List Int := match e with
  | ([.inl x, .inl y], .int s) => [y, x, s]
  | _ => []
def PairD (kvs : List (List Key × V)) : Prop := (kvs.map Prod.fst).Nodup ∧ ∀ e ∈ kvs, ∃ x y s : Int, e = ([Sum.inl x, Sum.inl y], .int s)
def rowsD (kvs : List (List Key × V)) : List (List Int) := kvs.map rowE
theorem mulP {a b : Int} (h0 : 0 ≤ a) (h1 : a < 2 ^ 70) (h2 : 0 ≤ b) (h3 : b < 2 ^ 70) : CMulW a b := by
  have e1 : (2 : Int) ^ 70 ≤ 2 ^ 2000 := by decide +kernel
  exact mulW_of (by omega) (by omega) (by omega) (by omega)
theorem shlN {b i : Nat} : ((b : Nat) : Int) * 2 ^ ((i : Int)).toNat = b * 2 ^ i := by rw [Int.toNat_natCast]
section
variable {P : Program} {w : World} {K : PySem.W.Frag} {mg : Str → Option Value} {base : Heap}
def sp_wholeI : Sp := fun vs H Q _ => ∃ i : Int, vs = [.int i] ∧ Q (.bl true) H
theorem mp_wholeI : MonP sp_wholeI := fun vs H Q Q' E h ⟨i, x1, q⟩ => ⟨i, x1, h _ _ q⟩
theorem ok_wholeI (T : Env fa fn K mg) : Good P w K mg base CX0 1 ("_law_whole", none) ["_law_found"] sp_wholeI := by
  refine good_mk T 36 (d := d_w_whole) (N := ["_law_found"]) (ps := ["_law_found"]) rfl rfl sc_w_whole (fun _ _ _ _ _ _ us hl => match us, hl with | [_], _ => rfl) (fun vs H Q E h => ?_) (fun f cdv A outer s H vs Q E hr h => ?_)
  · obtain ⟨i, rfl, _⟩ := h; rfl
  · obtain ⟨i, rfl, q⟩ := h
    refine ⟨_, (pss_one (ps_ret (pe_and (pe_callB (call_isiK K rfl) (by rfl) (T.free 1) (by decide +kernel) (pa_cons (pv 0) (pa_cons (pe_bltn (v := V.ty "int") rfl (T.free 2) (by decide +kernel) rfl) pa_nil))) (pe_one (pe_not (pe_callB (call_isiK K rfl) (by rfl) (T.free 1) (by decide +kernel) (pa_cons (pv 0) (pa_cons (pe_bltn (v := V.ty "bool") rfl (T.free 0) (by decide +kernel) rfl) pa_nil)))))))), ?_⟩
    walk_at "rd"
    refine rd_isiI ?_
    walk_at "rd"
    refine rd_isiB ?_
    walk_at "rd"
    exact q
def sp_mixW : Sp := fun vs H Q _ => ∃ c k : Int, vs = [.int c, .int k] ∧ 0 ≤ k ∧ k ≤ 5000 ∧ ∀ z : Int, 0 ≤ z → z < 2305843009213693951 → Q (.int z) H
theorem mp_mixW : MonP sp_mixW := fun vs H Q Q' E h ⟨c, k, x1, x2, x3, q⟩ => ⟨c, k, x1, x2, x3, fun z a b => h _ _ (q z a b)⟩
def sp_bitsW : Sp := fun vs H Q _ => ∃ c : Int, vs = [.int c] ∧ ∀ n : Nat, n ≤ 40 → Q (.int (n : Int)) H
theorem mp_bitsW : MonP sp_bitsW := fun vs H Q Q' E h ⟨c, x1, k⟩ => ⟨c, x1, fun n a => h _ _ (k n a)⟩
def sp_placeW : Sp := fun vs H Q _ => ∃ (c k : Int) (b : Nat), vs = [.int c, .int k, .int (b : Int)] ∧ 0 ≤ k ∧ k ≤ 5000 ∧ b ≤ 40 ∧ ∀ z : Int, -(2 ^ b) ≤ z → z < 2 ^ b → Q (.int z) H
theorem mp_placeW : MonP sp_placeW := fun vs H Q Q' E h ⟨c, k, b, x1, x2, x3, x4, q⟩ => ⟨c, k, b, x1, x2, x3, x4, fun z a b => h _ _ (q z a b)⟩
def sp_is_field (C : Addr) : Sp := fun vs H Q _ => ∃ (a : GA) (rows : List (Int × Addr)) (q : List Sq) (n : Nat) (S : Sq) (pk : Addr) (kvs : List (Key × V)), vs = [.ref a.g, .int (n : Int), .ref pk] ∧ GAt C H a rows q ∧ q[n]? = some S ∧ S.Least ∧ S.level ≤ 42 ∧ q.length ≤ 15000000 ∧ H pk = some (.dK kvs) ∧ pk ∉ a.muts rows ∧ KQ q Rcnt kvs ∧
  ∀ H' kvs', But pk H H' → H' pk = some (.dK kvs') → KQ q Rcnt kvs' → Q (.bl true) H'
theorem mp_is_field {C : Addr} : MonP (sp_is_field C) := fun vs H Q Q' E h ⟨a, rows, q, n, S, pk, kvs, x1, x2, x3, x4, x5, x6, x7, x8, x9, k⟩ => ⟨a, rows, q, n, S, pk, kvs, x1, x2, x3, x4, x5, x6, x7, x8, x9, fun H' kvs' b c d => h _ _ (k H' kvs' b c d)⟩
set_option maxHeartbeats 8000000 in
theorem ok_is_field (T : Env fa fn K mg) : Good P w K mg base CX0 48 ("_law_is_field", none) ["_law_grove", "_law_field_here", "_law_known"] (sp_is_field (CG K)) := by
  have G_Grove_level_of := ok_level_of (P := P) (w := w) (base := base) T
  have G_Grove_quarters := ok_quarters (P := P) (w := w) (base := base) T
  have G_w_whole := ok_wholeI (P := P) (w := w) (base := base) T
  have G_w_count := ok_count (P := P) (w := w) (base := base) T 42
  refine good_mk T 40 (d := d_w_is_field) (N := ["_law_grove", "_law_field_here", "_law_known", "_law_outer", "_law_k", "_law_quarter", "_law_j", "_law_part"]) (ps := ["_law_grove", "_law_field_here", "_law_known"]) rfl rfl sc_w_is_field (fun _ _ _ _ _ _ us hl => match us, hl with | [_, _, _], _ => rfl) (fun vs H Q E h => ?_) (fun f cdv A outer σ0 H vs Q E hr h => ?_)
  · obtain ⟨a, rows, q, n, S, pk, kvs, rfl, _⟩ := h; rfl
  · obtain ⟨a, rows, q, n, S, pk, kvs, rfl, G, hn, hL, l42, hq, hpk, out, hK, k⟩ := h
    have wS := G.wf _ (List.mem_of_getElem? hn)
    refine ⟨_, (pss_cons (ps_if (PW.pt (pw_or (pt_not (pt_val (pe_cgK K rfl G_w_whole (hr.mono (by decide)) (T.glo 57) (pa_cons (pv 1) pa_nil)))) (pw_or1 (pt_cmpR op_eq (pe_mgK K rfl (pv 0) (T.cls 13) (T.meth 25) G_Grove_level_of (hr.mono (by decide)) (pa_cons (pv 1) pa_nil)) pe_int (nomark _))))) (pss_one (ps_ret pe_bl)) pss_nil)
      (pss_cons (ps_if (pt_cmpR op_eq (pe_mgK K rfl (pv 0) (T.cls 13) (T.meth 25) G_Grove_level_of (hr.mono (by decide)) (pa_cons (pv 1) pa_nil)) pe_int (nomark _)) (pss_one (ps_ret pe_bl)) pss_nil)
      (pss_cons (ps_set (i := 3) sc_w_is_field.nd rfl (Or.inl rfl) pe_int)
      (pss_cons (ps_for PassesOwn.never rfl (pi_enumT (by rfl) (T.free 10) (pa_cons (pe_mgK K rfl (pv 0) (T.cls 13) (T.meth 23) G_Grove_quarters (hr.mono (by decide)) (pa_cons (pv 1) pa_nil)) pa_nil)) (pg_tup rfl (pgs_cons (pg_name (i := 4) sc_w_is_field.nd rfl (Or.inl rfl)) (pgs_cons (pg_name (i := 5) sc_w_is_field.nd rfl (Or.inl rfl)) pgs_nil))) (pss_one (ps_for PassesOwn.never rfl (pi_enumT (by rfl) (T.free 10) (pa_cons (pe_mgK K rfl (pv 0) (T.cls 13) (T.meth 23) G_Grove_quarters (hr.mono (by decide)) (pa_cons (pv 5) pa_nil)) pa_nil)) (pg_tup rfl (pgs_cons (pg_name (i := 6) sc_w_is_field.nd rfl (Or.inl rfl)) (pgs_cons (pg_name (i := 7) sc_w_is_field.nd rfl (Or.inl rfl)) pgs_nil))) (pss_one (ps_if (pt_cmpR op_ne (pv 6) (pe_op op_sub pe_int (pv 4)) (nomark _)) (pss_one (ps_set (i := 3) sc_w_is_field.nd rfl (Or.inl rfl) (pe_op op_add (pv 3) (pe_cgK K rfl G_w_count (hr.mono (by decide)) (T.glo 55) (pa_cons (pv 0) (pa_cons (pv 7) (pa_cons (pv 2) pa_nil))))))) pss_nil)))))
      (pss_one (ps_ret (pe_cmpR op_gt (pv 3) pe_int (nomark _)))))))), ?_⟩
    walk_at "rd"
    refine ⟨_, rfl, ?_⟩
    walk_at "rd"
    refine rd_methR G.ob (by rfl) ?_
    walk_at "rd"
    refine ⟨a, rows, q, n, S, rfl, G, hn, by omega, ?_⟩
    have l1 : 1 ≤ S.level := by rcases hL with h | h <;> omega
    walk_at "rd"
    rw [decide_eq_false (show ¬ ((S.level : Nat) : Int) = 0 by omega)]
    walk_at "rd"
    refine rd_methR G.ob (by rfl) ?_
    walk_at "rd"
    refine ⟨a, rows, q, n, S, rfl, G, hn, by omega, ?_⟩
    walk_at "rd"
    refine ite_d (fun z => ?_) (fun z => ?_)
    · walk_at "rd"
      exact k H kvs (But.refl _ _) hpk hK
    have l2 : 2 ≤ S.level := by omega
    have hm : S.mid.lives < S.lives := by
      rcases hL with h | h
      · omega
      · exact h.2
    have hoT := oT_lives wS l2
    obtain ⟨a1, a2, a3, a4, b1, b2, b3, b4, c1, c2, c3, c4, d1, d2, d3, d4, rfl⟩ := Sq.mid_form wS l2
    obtain ⟨⟨wa1, wa2, wa3, wa4, ea2, ea3, ea4⟩, ⟨wb1, wb2, wb3, wb4, eb2, eb3, eb4⟩, ⟨wc1, wc2, wc3, wc4, ec2, ec3, ec4⟩, ⟨wd1, wd2, wd3, wd4, ed2, ed3, ed4⟩, m1, m2, m3⟩ := id wS
    have lv : a1.level + 1 + 1 ≤ 42 := l42
    have m1' : b1.level + 1 = a1.level + 1 := m1
    have m2' : c1.level + 1 = a1.level + 1 := m2
    have m3' : d1.level + 1 = a1.level + 1 := m3
    obtain ⟨S0, hS0⟩ : ∃ S0, S0 = Sq.node (.node a1 a2 a3 a4) (.node b1 b2 b3 b4) (.node c1 c2 c3 c4) (.node d1 d2 d3 d4) := ⟨_, rfl⟩
    rw [← hS0] at hm hoT
    walk_at "rd"
    refine rd_iET ?_
    walk_at "rd"
    refine rd_methR G.ob (by rfl) ?_
    walk_at "rd"
    refine ⟨a, rows, q, n, _, _, _, _, rfl, G, hn, by omega, fun t x1 x2 x3 x4 ht e1 e2 e3 e4 => ?_⟩
    refine ⟨t, _, rfl, ht, ?_⟩
    have tpk : t ≠ pk := fun z => by rw [z, hpk] at ht; cases ht
    refine for_it (walk_enumT (a := t) (xs := [V.int (x1 : Int), .int (x2 : Int), .int (x3 : Int), .int (x4 : Int)])) (fun i σ H' => ∃ (kvs' : List (Key × V)) (y4 y5 y6 y7 : Option V), σ = [some (.ref a.g), some (.int (n : Int)), some (.ref pk), some (.int (oT S0 i)), y4, y5, y6, y7] ∧ But pk H H' ∧ H' pk = some (.dK kvs') ∧ KQ q Rcnt kvs')
      ⟨kvs, none, none, none, none, rfl, But.refl _ _, hpk, hK⟩ ?_ ?_ ?_
    · rintro i σ H' _ ⟨_, _, _, _, _, _, fb, _⟩
      exact fb _ _ ht tpk
    · rintro i v σ Ha Hb hi ⟨kvs1, y4, y5, y6, y7, rfl, fb1, hpk1, hK1⟩ ⟨t2, u1, u2, rfl, ht2, rfl, eu1, eu2⟩
      have hi4 : i < 4 := hi
      cases eu1
      obtain ⟨m, A, B, C', D, rfl, hm', hpr, lvl⟩ : ∃ (m : Nat) (A B C' D : Sq), u2 = .int (m : Int) ∧ q[m]? = some (.node A B C' D) ∧ (∀ j, j < 4 → [A, B, C', D][j]? = some (prt S0 i j)) ∧ A.level ≤ 42 ∧ B.level ≤ 42 ∧ C'.level ≤ 42 ∧ D.level ≤ 42 := by
        match i, hi4, eu2 with
        | 0, _, eu2 => exact ⟨x1, a1, a2, a3, a4, (Option.some.inj eu2).symm, e1, fun j hj => by (rw [hS0]; match j, hj with | 0, _ => rfl | 1, _ => rfl | 2, _ => rfl | 3, _ => rfl), by omega, by omega, by omega, by omega⟩
        | 1, _, eu2 => exact ⟨x2, b1, b2, b3, b4, (Option.some.inj eu2).symm, e2, fun j hj => by (rw [hS0]; match j, hj with | 0, _ => rfl | 1, _ => rfl | 2, _ => rfl | 3, _ => rfl), by omega, by omega, by omega, by omega⟩
        | 2, _, eu2 => exact ⟨x3, c1, c2, c3, c4, (Option.some.inj eu2).symm, e3, fun j hj => by (rw [hS0]; match j, hj with | 0, _ => rfl | 1, _ => rfl | 2, _ => rfl | 3, _ => rfl), by omega, by omega, by omega, by omega⟩
        | 3, _, eu2 => exact ⟨x4, d1, d2, d3, d4, (Option.some.inj eu2).symm, e4, fun j hj => by (rw [hS0]; match j, hj with | 0, _ => rfl | 1, _ => rfl | 2, _ => rfl | 3, _ => rfl), by omega, by omega, by omega, by omega⟩
      have s2 := same_upd (o := .tup [V.int (i : Int), V.int (m : Int)]) ht2
      have T2 : (upd Ha t2 (.tup [V.int (i : Int), V.int (m : Int)])) t2 = some (.tup [V.int (i : Int), V.int (m : Int)]) := upd_same
      have fb2 := fb1.trans (But.of s2)
      have hpk2 := s2 _ _ hpk1
      have e0 : (V.int ((i : Nat) : Int)) = V.int (i : Int) := rfl
      generalize upd Ha t2 (.tup [V.int (i : Int), V.int (m : Int)]) = H2 at *
      have G2 := G.but fb2 hpk out
      walk_at "rd"
      refine rd_iET ?_
      walk_at "rd"
      refine rd_methR G2.ob (by rfl) ?_
      walk_at "rd"
      refine ⟨a, rows, q, m, _, _, _, _, rfl, G2, hm', by omega, fun t3 z1 z2 z3 z4 ht3 f1 f2 f3 f4 => ?_⟩
      refine ⟨t3, _, rfl, ht3, ?_⟩
      have tpk3 : t3 ≠ pk := fun z => by rw [z, hpk2] at ht3; cases ht3
      refine for_it (walk_enumT (a := t3) (xs := [V.int (z1 : Int), .int (z2 : Int), .int (z3 : Int), .int (z4 : Int)])) (fun j σ H' => ∃ (kvs' : List (Key × V)) (y6 y7 : Option V), σ = [some (.ref a.g), some (.int (n : Int)), some (.ref pk), some (.int (oT S0 i + oS S0 i j)), some (.int (i : Int)), some (.int (m : Int)), y6, y7] ∧ But pk H2 H' ∧ H' pk = some (.dK kvs') ∧ KQ q Rcnt kvs')
        ⟨kvs1, _, _, by show _ = [_, _, _, some (V.int (oT S0 i + 0)), _, _, _, _]; rw [Int.add_zero]; rfl, But.refl _ _, hpk2, hK1⟩ ?_ ?_ ?_
      · rintro j σ H' _ ⟨_, _, _, _, fb, _⟩
        exact fb _ _ ht3 tpk3
      · rintro j v σ Hc Hd hj ⟨kvs3, y6, y7, rfl, fb3, hpk3, hK3⟩ ⟨t4, u3, u4, rfl, ht4, rfl, eu3, eu4⟩
        have hj4 : j < 4 := hj
        cases eu3
        have hpj := hpr j hj4
        obtain ⟨l, rfl, hl, hll⟩ : ∃ l : Nat, u4 = .int (l : Int) ∧ q[l]? = some (prt S0 i j) ∧ (prt S0 i j).level ≤ 42 := by
          match j, hj4, eu4, hpj with
          | 0, _, eu4, hpj => cases hpj; exact ⟨z1, (Option.some.inj eu4).symm, f1, lvl.1⟩
          | 1, _, eu4, hpj => cases hpj; exact ⟨z2, (Option.some.inj eu4).symm, f2, lvl.2.1⟩
          | 2, _, eu4, hpj => cases hpj; exact ⟨z3, (Option.some.inj eu4).symm, f3, lvl.2.2.1⟩
          | 3, _, eu4, hpj => cases hpj; exact ⟨z4, (Option.some.inj eu4).symm, f4, lvl.2.2.2⟩
        have s4 := same_upd (o := .tup [V.int (j : Int), V.int (l : Int)]) ht4
        have T4 : (upd Hc t4 (.tup [V.int (j : Int), V.int (l : Int)])) t4 = some (.tup [V.int (j : Int), V.int (l : Int)]) := upd_same
        have fb4 := fb3.trans (But.of s4)
        have hpk4 := s4 _ _ hpk3
        generalize upd Hc t4 (.tup [V.int (j : Int), V.int (l : Int)]) = H4 at *
        have G4 := G2.but fb4 hpk2 out
        have eo : oS S0 i (j + 1) = oS S0 i j + (if j = 3 - i then 0 else (prt S0 i j).lives) := rfl
        walk_at "rd"
        by_cases z : j = 3 - i
        · rw [if_pos z, Int.add_zero] at eo
          rw [decide_eq_true (show ((j : Nat) : Int) = 3 - (i : Int) by omega)]
          walk_at "rd"
          exact ⟨kvs3, _, _, by rw [eo]; rfl, fb4, hpk4, hK3⟩
        · rw [if_neg z] at eo
          rw [decide_eq_false (show ¬ ((j : Nat) : Int) = 3 - (i : Int) by omega)]
          walk_at "rd"
          refine ⟨a, rows, q, l, _, pk, kvs3, rfl, G4, hl, hll, hq, hpk4, out, hK3, fun H5 kvs5 fb5 hpk5 hK5 => ?_⟩
          walk_at "rd"
          exact ⟨kvs5, _, _, by rw [eo, ← Int.add_assoc]; rfl, fb4.trans fb5, hpk5, hK5⟩
      · rintro σ H3 ⟨kvs3, y6, y7, rfl, fb3, hpk3, hK3⟩
        walk_at "rd"
        exact ⟨kvs3, _, _, _, _, rfl, fb2.trans fb3, hpk3, hK3⟩
    rintro σ H3 ⟨kvs3, y4, y5, y6, y7, rfl, fb3, hpk3, hK3⟩
    walk_at "rd"
    have pos : 0 < oT S0 4 := by rw [hoT]; omega
    rw [decide_eq_true (show (0 : Int) < oT S0 [V.int (x1 : Int), V.int (x2 : Int), V.int (x3 : Int), V.int (x4 : Int)].length from pos)]
    exact k _ _ fb3 hpk3 hK3
def sp_within (C : Addr) (L : Nat) : Sp := fun vs H Q _ => ∃ (a : GA) (rows : List (Int × Addr)) (q : List Sq) (n : Nat) (S : Sq) (x y : Int) (pk : Addr) (kvs : List (Key × V)), vs = [.ref a.g, .int (n : Int), .int x, .int y, .ref pk] ∧ GAt C H a rows q ∧ q[n]? = some S ∧ S.level ≤ L ∧ S.level ≤ 45 ∧ q.length ≤ 15000000 ∧ H pk = some (.dK kvs) ∧ pk ∉ a.muts rows ∧ KQ q Rcnt kvs ∧ S.lives ≤ 500 ∧
  ∀ H' kvs' l, But pk H H' → H' pk = some (.dK kvs') → KQ q Rcnt kvs' → H l = none → TL H' l (wi S x y) → Q (.ref l) H'
theorem mp_within {C : Addr} {L : Nat} : MonP (sp_within C L) := fun vs H Q Q' E h ⟨a, rows, q, n, S, x, y, pk, kvs, x1, x2, x3, x4, x5, x6, x7, x8, x9, y1, k⟩ => ⟨a, rows, q, n, S, x, y, pk, kvs, x1, x2, x3, x4, x5, x6, x7, x8, x9, y1, fun H' kvs' l b c d e f => h _ _ (k H' kvs' l b c d e f)⟩
theorem no_within (T : Env fa fn K mg) : Good P w K mg base CX0 1 ("_law_within", none) ["_law_grove", "_law_square", "_law_x", "_law_y", "_law_known"] (fun _ _ _ _ => False) := by
  refine good_mk T 41 (d := d_w_within) (N := ["_law_grove", "_law_square", "_law_x", "_law_y", "_law_known", "_law_level", "_law_half", "_law_cells", "_law_k", "_law_one"]) (ps := ["_law_grove", "_law_square", "_law_x", "_law_y", "_law_known"]) rfl rfl sc_w_within (fun _ _ _ _ _ _ us hl => match us, hl with | [_, _, _, _, _], _ => rfl) (fun vs H Q E h => h.elim) (fun f cdv A outer σ0 H vs Q E hr h => h.elim)
set_option maxHeartbeats 8000000 in
theorem ok_within (T : Env fa fn K mg) : ∀ L : Nat, Good P w K mg base CX0 (51 + L) ("_law_within", none) ["_law_grove", "_law_square", "_law_x", "_law_y", "_law_known"] (sp_within (CG K) L) := by
  have G_Grove_level_of := ok_level_of (P := P) (w := w) (base := base) T
  have G_Grove_quarters := ok_quarters (P := P) (w := w) (base := base) T
  have G_Grove_state_of := ok_state_of (P := P) (w := w) (base := base) T
  have G_w_count := ok_count (P := P) (w := w) (base := base) T 45
  intro L
  induction L with
  | zero =>
    have G_w_within := no_within (P := P) (w := w) (base := base) T
    refine good_mk T 41 (d := d_w_within) (N := ["_law_grove", "_law_square", "_law_x", "_law_y", "_law_known", "_law_level", "_law_half", "_law_cells", "_law_k", "_law_one"]) (ps := ["_law_grove", "_law_square", "_law_x", "_law_y", "_law_known"]) rfl rfl sc_w_within (fun _ _ _ _ _ _ us hl => match us, hl with | [_, _, _, _, _], _ => rfl) (fun vs H Q E h => ?_) (fun f cdv A outer σ0 H vs Q E hr h => ?_)
    · obtain ⟨a, rows, q, n, S, x, y, pk, kvs, rfl, _⟩ := h; rfl
    · obtain ⟨a, rows, q, n, S, x, y, pk, kvs, rfl, G, hn, hL, l45, hq, hpk, out, hK, hlv, k⟩ := h
      refine ⟨_, (pss_cons (ps_if (pt_cmpR op_eq (pe_cgK K rfl G_w_count (hr.mono (by decide)) (T.glo 55) (pa_cons (pv 0) (pa_cons (pv 1) (pa_cons (pv 4) pa_nil)))) pe_int (nomark _)) (pss_one (ps_ret (pe_lst pa_nil))) pss_nil)
      (pss_cons (ps_set (i := 5) sc_w_within.nd rfl (Or.inl rfl) (pe_mgK K rfl (pv 0) (T.cls 13) (T.meth 25) G_Grove_level_of (hr.mono (by decide)) (pa_cons (pv 1) pa_nil)))
      (pss_cons (ps_if (pt_cmpR op_eq (pv 5) pe_int (nomark _)) (pss_one (ps_ret (pe_lst (pa_cons (pe_tup (pa_cons (pv 3) (pa_cons (pv 2) (pa_cons (pe_mgK K rfl (pv 0) (T.cls 13) (T.meth 54) G_Grove_state_of (hr.mono (by decide)) (pa_cons (pv 1) pa_nil)) pa_nil)))) pa_nil)))) pss_nil)
      (pss_cons (ps_set (i := 6) sc_w_within.nd rfl (Or.inl rfl) (pe_op op_fdivW (pe_op op_shl pe_int (pv 5)) pe_int))
      (pss_cons (ps_set (i := 7) sc_w_within.nd rfl (Or.inl rfl) (pe_lst pa_nil))
      (pss_cons (ps_for PassesOwn.never rfl (pi_enumT (by rfl) (T.free 10) (pa_cons (pe_mgK K rfl (pv 0) (T.cls 13) (T.meth 23) G_Grove_quarters (hr.mono (by decide)) (pa_cons (pv 1) pa_nil)) pa_nil)) (pg_tup rfl (pgs_cons (pg_name (i := 8) sc_w_within.nd rfl (Or.inl rfl)) (pgs_cons (pg_name (i := 9) sc_w_within.nd rfl (Or.inl rfl)) pgs_nil))) (pss_one (ps_set (i := 7) sc_w_within.nd rfl (Or.inl rfl) (pe_op op_cat (pv 7) (pe_cgK K rfl G_w_within (hr.mono (by decide)) (T.glo 58) (pa_cons (pv 0) (pa_cons (pv 9) (pa_cons (pe_op op_add (pv 2) (pe_op op_mulW (pe_op op_mod (pv 8) pe_int) (pv 6))) (pa_cons (pe_op op_add (pv 3) (pe_op op_mulW (pe_op op_fdivW (pv 8) pe_int) (pv 6))) (pa_cons (pv 4) pa_nil))))))))))
      (pss_one (ps_ret (pv 7))))))))), ?_⟩
      cases S with
      | node A' B C' D => exact absurd (Nat.le_zero.mp hL) (Nat.succ_ne_zero _)
      | leaf s =>
      walk_at "rd"
      refine ⟨a, rows, q, n, _, pk, kvs, rfl, G, hn, by show 0 ≤ 45; decide, hq, hpk, out, hK, fun H1 kvs1 fb1 hpk1 hK1 => ?_⟩
      have G1 := G.but fb1 hpk out
      walk_at "rd"
      refine ite_d (fun z => ?_) (fun z => ?_)
      · walk_at "rd"
        refine rd_new (hn := by show 0 ≤ sizeLine; decide) fun l hl => ?_
        have s2 := same_upd (o := .lst []) hl
        have hl0 : H l = none := by
          cases e : H l with
          | none => rfl
          | some o =>
            by_cases y : l = pk
            · rw [y, hpk1] at hl; cases hl
            · rw [fb1 _ _ e y] at hl; cases hl
        refine k _ kvs1 l (fb1.trans (But.of s2)) (s2 _ _ hpk1) hK1 hl0 ?_
        rw [wi_none z]
        exact ⟨[], upd_same, trivial⟩
      · walk_at "rd"
        refine rd_methR G1.ob (by rfl) ?_
        walk_at "rd"
        refine ⟨a, rows, q, n, _, rfl, G1, hn, by omega, ?_⟩
        walk_at "rd"
        refine iteT ?_
        walk_at "rd"
        refine rd_methR G1.ob (by rfl) ?_
        walk_at "rd"
        refine ⟨a, rows, q, n, s, rfl, G1, hn, by omega, ?_⟩
        walk_at "rd"
        refine rd_new (hn := by show 3 ≤ sizeLine; decide) fun t ht => ?_
        have s2 := same_upd (o := .tup [V.int y, V.int x, V.int s]) ht
        have T2 : (upd H1 t (.tup [V.int y, V.int x, V.int s])) t = some (.tup ([y, x, s].map V.int)) := upd_same
        have fb2 := fb1.trans (But.of s2)
        have hpk2 := s2 _ _ hpk1
        generalize upd H1 t (.tup [V.int y, V.int x, V.int s]) = H2 at *
        walk_at "rd"
        refine rd_new (hn := by show 1 ≤ sizeLine; decide) fun l hl => ?_
        have s3 := same_upd (o := .lst [V.ref t]) hl
        have hl0 : H l = none := by
          cases e : H l with
          | none => rfl
          | some o =>
            by_cases y : l = pk
            · rw [y, hpk2] at hl; cases hl
            · rw [fb2 _ _ e y] at hl; cases hl
        refine k _ kvs1 l (fb2.trans (But.of s3)) (s3 _ _ hpk2) hK1 hl0 ?_
        have es : s ≠ 0 := fun e => z (by rw [e]; rfl)
        show TL _ l (if s = 0 then [] else [[y, x, s]])
        rw [if_neg es]
        exact ⟨[t], upd_same, s3 _ _ T2, trivial⟩
  | succ L ih =>
    have G_w_within := ih
    refine good_mk T 41 (d := d_w_within) (N := ["_law_grove", "_law_square", "_law_x", "_law_y", "_law_known", "_law_level", "_law_half", "_law_cells", "_law_k", "_law_one"]) (ps := ["_law_grove", "_law_square", "_law_x", "_law_y", "_law_known"]) rfl rfl sc_w_within (fun _ _ _ _ _ _ us hl => match us, hl with | [_, _, _, _, _], _ => rfl) (fun vs H Q E h => ?_) (fun f cdv A outer σ0 H vs Q E hr h => ?_)
    · obtain ⟨a, rows, q, n, S, x, y, pk, kvs, rfl, _⟩ := h; rfl
    · obtain ⟨a, rows, q, n, S, x, y, pk, kvs, rfl, G, hn, hL, l45, hq, hpk, out, hK, hlv, k⟩ := h
      have hsz := sizeBig
      refine ⟨_, (pss_cons (ps_if (pt_cmpR op_eq (pe_cgK K rfl G_w_count (hr.mono (by show _ ≤ 51 + L; omega)) (T.glo 55) (pa_cons (pv 0) (pa_cons (pv 1) (pa_cons (pv 4) pa_nil)))) pe_int (nomark _)) (pss_one (ps_ret (pe_lst pa_nil))) pss_nil)
      (pss_cons (ps_set (i := 5) sc_w_within.nd rfl (Or.inl rfl) (pe_mgK K rfl (pv 0) (T.cls 13) (T.meth 25) G_Grove_level_of (hr.mono (by show _ ≤ 51 + L; omega)) (pa_cons (pv 1) pa_nil)))
      (pss_cons (ps_if (pt_cmpR op_eq (pv 5) pe_int (nomark _)) (pss_one (ps_ret (pe_lst (pa_cons (pe_tup (pa_cons (pv 3) (pa_cons (pv 2) (pa_cons (pe_mgK K rfl (pv 0) (T.cls 13) (T.meth 54) G_Grove_state_of (hr.mono (by show _ ≤ 51 + L; omega)) (pa_cons (pv 1) pa_nil)) pa_nil)))) pa_nil)))) pss_nil)
      (pss_cons (ps_set (i := 6) sc_w_within.nd rfl (Or.inl rfl) (pe_op op_fdivW (pe_op op_shl pe_int (pv 5)) pe_int))
      (pss_cons (ps_set (i := 7) sc_w_within.nd rfl (Or.inl rfl) (pe_lst pa_nil))
      (pss_cons (ps_for PassesOwn.never rfl (pi_enumT (by rfl) (T.free 10) (pa_cons (pe_mgK K rfl (pv 0) (T.cls 13) (T.meth 23) G_Grove_quarters (hr.mono (by show _ ≤ 51 + L; omega)) (pa_cons (pv 1) pa_nil)) pa_nil)) (pg_tup rfl (pgs_cons (pg_name (i := 8) sc_w_within.nd rfl (Or.inl rfl)) (pgs_cons (pg_name (i := 9) sc_w_within.nd rfl (Or.inl rfl)) pgs_nil))) (pss_one (ps_set (i := 7) sc_w_within.nd rfl (Or.inl rfl) (pe_op op_cat (pv 7) (pe_cgK K rfl G_w_within (hr.mono (by show _ ≤ 51 + L; omega)) (T.glo 58) (pa_cons (pv 0) (pa_cons (pv 9) (pa_cons (pe_op op_add (pv 2) (pe_op op_mulW (pe_op op_mod (pv 8) pe_int) (pv 6))) (pa_cons (pe_op op_add (pv 3) (pe_op op_mulW (pe_op op_fdivW (pv 8) pe_int) (pv 6))) (pa_cons (pv 4) pa_nil))))))))))
      (pss_one (ps_ret (pv 7))))))))), ?_⟩
      have fresh : ∀ {H' : Hp} {kvs' : List (Key × V)} {l : Addr}, But pk H H' → H' pk = some (.dK kvs') → H' l = none → H l = none := fun {H' kvs' l} fb hp hl => by
        cases e : H l with
        | none => rfl
        | some o =>
          by_cases y : l = pk
          · rw [y, hp] at hl; cases hl
          · rw [fb _ _ e y] at hl; cases hl
      walk_at "rd"
      refine ⟨a, rows, q, n, _, pk, kvs, rfl, G, hn, l45, hq, hpk, out, hK, fun H1 kvs1 fb1 hpk1 hK1 => ?_⟩
      have G1 := G.but fb1 hpk out
      walk_at "rd"
      refine ite_d (fun z => ?_) (fun z => ?_)
      · walk_at "rd"
        refine rd_new (hn := by show 0 ≤ sizeLine; decide) fun l hl => ?_
        have s2 := same_upd (o := .lst []) hl
        refine k _ kvs1 l (fb1.trans (But.of s2)) (s2 _ _ hpk1) hK1 (fresh fb1 hpk1 hl) ?_
        rw [wi_none z]
        exact ⟨[], upd_same, trivial⟩
      walk_at "rd"
      refine rd_methR G1.ob (by rfl) ?_
      walk_at "rd"
      refine ⟨a, rows, q, n, _, rfl, G1, hn, by omega, ?_⟩
      cases S with
      | leaf s =>
        walk_at "rd"
        refine iteT ?_
        walk_at "rd"
        refine rd_methR G1.ob (by rfl) ?_
        walk_at "rd"
        refine ⟨a, rows, q, n, s, rfl, G1, hn, by omega, ?_⟩
        walk_at "rd"
        refine rd_new (hn := by show 3 ≤ sizeLine; decide) fun t ht => ?_
        have s2 := same_upd (o := .tup [V.int y, V.int x, V.int s]) ht
        have T2 : (upd H1 t (.tup [V.int y, V.int x, V.int s])) t = some (.tup ([y, x, s].map V.int)) := upd_same
        have fb2 := fb1.trans (But.of s2)
        have hpk2 := s2 _ _ hpk1
        generalize upd H1 t (.tup [V.int y, V.int x, V.int s]) = H2 at *
        walk_at "rd"
        refine rd_new (hn := by show 1 ≤ sizeLine; decide) fun l hl => ?_
        have s3 := same_upd (o := .lst [V.ref t]) hl
        refine k _ kvs1 l (fb2.trans (But.of s3)) (s3 _ _ hpk2) hK1 (fresh fb2 hpk2 hl) ?_
        have es : s ≠ 0 := fun e => z (by rw [e]; rfl)
        show TL _ l (if s = 0 then [] else [[y, x, s]])
        rw [if_neg es]
        exact ⟨[t], upd_same, s3 _ _ T2, trivial⟩
      | node A' B' C' D' =>
        have hlv' : (Sq.node A' B' C' D').level = A'.level + 1 := rfl
        have wS := G.wf _ (List.mem_of_getElem? hn)
        obtain ⟨wa, wb, wc, wd, ee1, ee2, ee3⟩ := wS
        have na := A'.lives_nonneg; have nb := B'.lives_nonneg; have nc := C'.lives_nonneg; have nd := D'.lives_nonneg
        have hls : (Sq.node A' B' C' D').lives = A'.lives + B'.lives + C'.lives + D'.lives := rfl
        walk_at "rd"
        rw [decide_eq_false (by rw [hlv']; omega)]
        walk_at "rd"
        refine rd_I (by rw [hlv']; refine ⟨by omega, by omega, by decide⟩) ?_
        rw [shl_ok]
        walk_at "rd"
        have ehf : (2 : Int) ^ (Sq.node A' B' C' D').level / 2 = 2 ^ A'.level := by
          rw [hlv', Sq.two_succ]; omega
        rw [ehf]
        have hp := Sq.two_pos A'.level
        have hp2 := (pow64' (i := A'.level) (by omega)).2
        refine rd_new (hn := by show 0 ≤ sizeLine; decide) fun pc hpc => ?_
        have s2 := same_upd (o := .lst []) hpc
        have TL2 : TL (upd H1 pc (.lst [])) pc [] := ⟨[], upd_same, trivial⟩
        have fb2 := fb1.trans (But.of s2)
        have hpk2 := s2 _ _ hpk1
        have pc0 := fresh fb1 hpk1 hpc
        generalize upd H1 pc (.lst []) = H2 at *
        have G2 := G.but fb2 hpk out
        walk_at "rd"
        refine rd_iET ?_
        walk_at "rd"
        refine rd_methR G2.ob (by rfl) ?_
        walk_at "rd"
        refine ⟨a, rows, q, n, _, _, _, _, rfl, G2, hn, by omega, fun t x1 x2 x3 x4 ht e1 e2 e3 e4 => ?_⟩
        refine ⟨t, _, rfl, ht, ?_⟩
        have tpk : t ≠ pk := fun z => by rw [z, hpk2] at ht; cases ht
        obtain ⟨W, hW⟩ : ∃ W, W = [wi A' x y, wi B' (x + 2 ^ A'.level) y, wi C' x (y + 2 ^ A'.level), wi D' (x + 2 ^ A'.level) (y + 2 ^ A'.level)] := ⟨_, rfl⟩
        have hWf : wi (Sq.node A' B' C' D') x y = W.flatten := by
          rw [hW]
          show wi A' x y ++ wi B' (x + 2 ^ A'.level) y ++ wi C' x (y + 2 ^ A'.level) ++ wi D' (x + 2 ^ A'.level) (y + 2 ^ A'.level) = _
          simp [List.flatten, List.append_assoc]
        have hWl : W.flatten.length ≤ 500 := by
          have := wi_len (Sq.node A' B' C' D') x y
          rw [hWf] at this; omega
        rw [hWf] at k
        refine for_it (walk_enumT (a := t) (xs := [V.int (x1 : Int), .int (x2 : Int), .int (x3 : Int), .int (x4 : Int)])) (fun i σ H' => ∃ (kvs' : List (Key × V)) (pc' : Addr) (y8 y9 : Option V), σ = [some (.ref a.g), some (.int (n : Int)), some (.int x), some (.int y), some (.ref pk), some (.int (((Sq.node A' B' C' D').level : Nat) : Int)), some (.int (2 ^ A'.level)), some (.ref pc'), y8, y9] ∧ But pk H2 H' ∧ H' pk = some (.dK kvs') ∧ KQ q Rcnt kvs' ∧ H pc' = none ∧ TL H' pc' (W.take i).flatten)
          ⟨kvs1, pc, none, none, rfl, But.refl _ _, hpk2, hK1, pc0, TL2⟩ ?_ ?_ ?_
        · rintro i σ H' _ ⟨_, _, _, _, _, fb, _⟩
          exact fb _ _ ht tpk
        · rintro i v σ Ha Hb hi ⟨kvs3, pc', y8, y9, rfl, fb3, hpk3, hK3, pc0', TL3⟩ ⟨t2, u1, u2, rfl, ht2, rfl, eu1, eu2⟩
          have hi4 : i < 4 := hi
          cases eu1
          obtain ⟨m, T', rfl, hm, hl', hlT, hWi⟩ : ∃ (m : Nat) (T' : Sq), u2 = .int (m : Int) ∧ q[m]? = some T' ∧ T'.level = A'.level ∧ T'.lives ≤ 500 ∧ W[i]? = some (wi T' (x + (i : Int) % 2 * 2 ^ A'.level) (y + (i : Int) / 2 * 2 ^ A'.level)) := by
            rw [hW]
            match i, hi4, eu2 with
            | 0, _, eu2 => exact ⟨x1, A', (Option.some.inj eu2).symm, e1, rfl, by omega, by simp⟩
            | 1, _, eu2 => exact ⟨x2, B', (Option.some.inj eu2).symm, e2, ee1, by omega, by simp⟩
            | 2, _, eu2 => exact ⟨x3, C', (Option.some.inj eu2).symm, e3, ee2, by omega, by simp⟩
            | 3, _, eu2 => exact ⟨x4, D', (Option.some.inj eu2).symm, e4, ee3, by omega, by simp⟩
          have s4 := same_upd (o := .tup [V.int (i : Int), V.int (m : Int)]) ht2
          have T4 : (upd Ha t2 (.tup [V.int (i : Int), V.int (m : Int)])) t2 = some (.tup [V.int (i : Int), V.int (m : Int)]) := upd_same
          have fb4 := fb3.trans (But.of s4)
          have hpk4 := s4 _ _ hpk3
          have TL4 := TL3.same s4
          generalize upd Ha t2 (.tup [V.int (i : Int), V.int (m : Int)]) = H4 at *
          have G4 := G2.but fb4 hpk2 out
          walk_at "rd"
          refine rd_I (mulW_of (by omega) (by omega) (by omega) (by omega)) ?_
          walk_at "rd"
          refine rd_I (mulW_of (by omega) (by omega) (by omega) (by omega)) ?_
          walk_at "rd"
          refine ⟨a, rows, q, m, T', _, _, pk, kvs3, rfl, G4, hm, by omega, by omega, hq, hpk4, out, hK3, hlT, fun H5 kvs5 l5 fb5 hpk5 hK5 hl5 TL5 => ?_⟩
          obtain ⟨rs, r1, r2⟩ := TL4
          obtain ⟨rs', r1', r2'⟩ := TL5
          have pcp : pc' ≠ pk := fun z => by rw [z, hpk] at pc0'; cases pc0'
          have c1 := fb5 _ _ r1 pcp
          have r25 : TR H5 rs (W.take i).flatten := r2.keep (fb5.tup hpk4)
          have hlen := flat_take W (i + 1)
          have esn := flat_snoc hWi
          rw [esn, List.length_append] at hlen
          have l1 := r2.len
          have l2 := r2'.len
          walk_at "rd"
          refine ⟨pc', l5, _, _, rfl, rfl, c1, r1', by rw [List.length_map, List.length_map, l1, l2]; omega, fun p6 hp6 => ?_⟩
          have s6 := same_upd (o := .lst (rs.map V.ref ++ rs'.map V.ref)) hp6
          have fb6 := (fb4.trans fb5).trans (But.of s6)
          have TL6 : TL (upd H5 p6 (.lst (rs.map V.ref ++ rs'.map V.ref))) p6 (W.take (i + 1)).flatten := ⟨rs ++ rs', by rw [upd_same, List.map_append], by
            rw [esn]
            exact (r25.cat r2').keep (Tup.of s6)⟩
          walk_at "rd"
          exact ⟨kvs5, p6, _, _, rfl, fb6, s6 _ _ hpk5, hK5, fresh (fb2.trans (fb4.trans fb5)) hpk5 hp6, TL6⟩
        · rintro σ H3 ⟨kvs3, pc', y8, y9, rfl, fb3, hpk3, hK3, pc0', TL3⟩
          have e4' : W.take [V.int (x1 : Int), V.int (x2 : Int), V.int (x3 : Int), V.int (x4 : Int)].length = W := by rw [hW]; rfl
          rw [e4'] at TL3
          walk_at "rd"
          exact k _ kvs3 pc' (fb2.trans fb3) hpk3 hK3 pc0' TL3
end
end JF

/-! ### fields walked down by quarters: sorted, compared; drawn cells -/
namespace JF
open PySem PySem.Spec PyProof.Rows L2
theorem snoc_get2 {α : Type} {l : List α} {x y : α} {j : Nat} (h : (l ++ [x])[j]? = some y) : l[j]? = some y ∨ (j = l.length ∧ y = x) := by
  rcases Nat.lt_or_ge j l.length with hj | hj
  · rw [List.getElem?_append_left hj] at h
    exact .inl h
  · obtain rfl : j = l.length := by
      have := (List.getElem?_eq_some_iff.mp h).1
      rw [List.length_append] at this
      simp at this
      omega
    rw [List.getElem?_append_right (Nat.le_refl _), Nat.sub_self] at h
    cases h
    exact .inr ⟨rfl, rfl⟩
theorem none_ofW {H H' : Hp} (s : Same H H') {b : Addr} (h : H' b = none) : H b = none := by
  cases e : H b with
  | none => rfl
  | some o => rw [s _ _ e] at h; cases h
theorem Same.putW {H0 H : Hp} {p : Addr} {o : HO} (s : Same H0 H) (h : H0 p = none) : Same H0 (upd H p o) := fun b u e => by
  rw [upd_ne (ne_of_none e h)]
  exact s _ _ e
theorem eqvAll_tr : ∀ xs ys : List (List Int), PyData.eqvAll (xs.map fun x => PyData.tuple (x.map PyData.int)) (ys.map fun x => PyData.tuple (x.map PyData.int)) = decide (xs = ys)
  | [], [] => by simp [PyData.eqvAll]
  | [], _ :: _ => by simp [PyData.eqvAll]
  | _ :: _, [] => by simp [PyData.eqvAll]
  | x :: xs, y :: ys => by
    simp only [List.map_cons, PyData.eqvAll, PyData.eqv, eqvAll_ints x y, eqvAll_tr xs ys, List.cons.injEq]
    by_cases a : x = y <;> by_cases b : xs = ys <;> simp [a, b]
theorem rd_eqTL {K : PySem.W.Frag} {H : Hp} {Q : VK} {p p' : Addr} {xs ys : List (List Int)} (h : TL H p xs) (h' : TL H p' ys) (q : Q (.bl (decide (xs = ys))) H) : rEqD K (.ref p) (.ref p') H Q := by
  obtain ⟨rs, h1, h2⟩ := h
  obtain ⟨rs', h1', h2'⟩ := h'
  refine ⟨_, _, .lst (SqL.of h1) (dp_tr h2), .lst (SqL.of h1') (dp_tr h2'), shaped_tr xs, shaped_tr ys, ?_⟩
  have e : PyData.eqv (.list (xs.map fun x => PyData.tuple (x.map PyData.int))) (.list (ys.map fun x => PyData.tuple (x.map PyData.int))) = decide (xs = ys) := by rw [← eqvAll_tr]; simp only [PyData.eqv]
  rw [e]; exact q
theorem rd_neTL {K : PySem.W.Frag} {H : Hp} {Q : VK} {p p' : Addr} {xs ys : List (List Int)} (h : TL H p xs) (h' : TL H p' ys) (q : Q (.bl (!decide (xs = ys))) H) : rNeD K (.ref p) (.ref p') H Q := by
  obtain ⟨rs, h1, h2⟩ := h
  obtain ⟨rs', h1', h2'⟩ := h'
  refine ⟨_, _, .lst (SqL.of h1) (dp_tr h2), .lst (SqL.of h1') (dp_tr h2'), shaped_tr xs, shaped_tr ys, ?_⟩
  have e : PyData.eqv (.list (xs.map fun x => PyData.tuple (x.map PyData.int))) (.list (ys.map fun x => PyData.tuple (x.map PyData.int))) = decide (xs = ys) := by rw [← eqvAll_tr]; simp only [PyData.eqv]
  rw [e]; exact q
/-! #### dicts by places -/
def dv (kvs : List (List Key × V)) (x y : Int) : Int := match valV kvs [Sum.inl x, Sum.inl y] with
  | some (.int s) => s
  | _ => 0
theorem dv_put (kvs : List (List Key × V)) (a b s x y : Int) : dv (putK kvs [Sum.inl a, Sum.inl b] (.int s)) x y = if x = a ∧ y = b then s else dv kvs x y := by
  unfold dv
  rw [valV_put]
  by_cases h : x = a ∧ y = b
  · rw [if_pos h, if_pos (by rw [h.1, h.2])]
  · rw [if_neg h, if_neg (fun z => by
      simp only [List.cons.injEq, Sum.inl.injEq, and_true] at z
      exact h z)]
theorem putK_cases {κ : Type} [DecidableEq κ] {kvs : List (κ × V)} {k : κ} {x : V} {e : κ × V} (h : e ∈ putK kvs k x) : e ∈ kvs ∨ e = (k, x) := by
  unfold putK at h
  split at h
  · obtain ⟨e', m, z⟩ := List.mem_map.mp h
    by_cases y : e'.1 = k
    · rw [if_pos y] at z
      exact .inr (by rw [← z, y])
    · rw [if_neg y] at z
      exact .inl (z ▸ m)
  · rcases List.mem_append.mp h with m | m
    · exact .inl m
    · exact .inr (List.mem_singleton.mp m)
theorem putK_nodup {κ : Type} [DecidableEq κ] {kvs : List (κ × V)} {k : κ} {x : V} (h : (kvs.map Prod.fst).Nodup) : ((putK kvs k x).map Prod.fst).Nodup := by
  cases e : valV kvs k with
  | none =>
    rw [putK_new _ e, List.map_append, List.nodup_append]
    refine ⟨h, by simp, fun a ha b hb z => ?_⟩
    simp only [List.map_cons, List.map_nil, List.mem_singleton] at hb
    rw [z, hb] at ha
    exact valV_nonek e ha
  | some u =>
    unfold putK
    rw [valV_any, e]
    show ((kvs.map fun kv => if kv.1 = k then (kv.1, x) else kv).map Prod.fst).Nodup
    rw [List.map_map]
    have em : (Prod.fst ∘ fun kv : κ × V => if kv.1 = k then (kv.1, x) else kv) = Prod.fst := by
      funext kv
      show (if kv.1 = k then (kv.1, x) else kv).1 = kv.1
      split <;> rfl
    rw [em]; exact h
theorem PairD.nil : PairD [] := ⟨by simp, fun e h => by cases h⟩
theorem PairD.put {kvs : List (List Key × V)} (h : PairD kvs) (a b s : Int) : PairD (putK kvs [Sum.inl a, Sum.inl b] (.int s)) :=
  ⟨putK_nodup h.1, fun e he => by
    rcases putK_cases he with m | m
    · exact h.2 e m
    · exact ⟨a, b, s, m⟩⟩
def NZ (kvs : List (List Key × V)) : Prop := ∀ e ∈ kvs, e.2 ≠ .int 0
theorem NZ.nil : NZ [] := fun e h => by cases h
theorem NZ.put {kvs : List (List Key × V)} (h : NZ kvs) {s : Int} (hs : s ≠ 0) (k : List Key) : NZ (putK kvs k (.int s)) := fun e he => by
  rcases putK_cases he with m | m
  · exact h e m
  · rw [m]; intro z; injection z with z; exact hs z
theorem mem_valV {κ : Type} [DecidableEq κ] : ∀ {kvs : List (κ × V)} {k : κ} {v : V}, (kvs.map Prod.fst).Nodup → (k, v) ∈ kvs → valV kvs k = some v
  | [], _, _, _, h => by cases h
  | p :: r, k, v, nd, h => by
    rw [List.map_cons, List.nodup_cons] at nd
    rcases List.mem_cons.mp h with h | h
    · subst h; exact valV_pos rfl
    · have ne : ¬ p.1 = k := fun z => nd.1 (by rw [z]; exact List.mem_map.mpr ⟨_, h, rfl⟩)
      rw [valV_neg ne]
      exact mem_valV nd.2 h
theorem mem_rowsD {kvs : List (List Key × V)} (h : PairD kvs) (z : NZ kvs) (t : List Int) : t ∈ rowsD kvs ↔ ∃ x y : Int, dv kvs x y ≠ 0 ∧ t = [y, x, dv kvs x y] := by
  unfold rowsD
  rw [List.mem_map]
  constructor
  · rintro ⟨e, he, rfl⟩
    obtain ⟨x, y, s, rfl⟩ := h.2 e he
    have ev : dv kvs x y = s := by unfold dv; rw [mem_valV h.1 he]
    refine ⟨x, y, ?_, ?_⟩
    · rw [ev]; intro w; exact z _ he (by rw [w])
    · rw [ev]; rfl
  · rintro ⟨x, y, ne, rfl⟩
    unfold dv at ne ⊢
    cases e : valV kvs [Sum.inl x, Sum.inl y] with
    | none => rw [e] at ne; exact absurd rfl ne
    | some v =>
      have hm := valV_mem e
      obtain ⟨x', y', s, e2⟩ := h.2 _ hm
      simp only [Prod.mk.injEq, List.cons.injEq, Sum.inl.injEq, and_true] at e2
      obtain ⟨⟨rfl, rfl⟩, rfl⟩ := e2
      exact ⟨_, hm, rfl⟩
theorem rowsD_nodup {kvs : List (List Key × V)} (h : PairD kvs) : (rowsD kvs).Nodup := by
  unfold rowsD
  have p : kvs.Pairwise fun a b => a.1 ≠ b.1 := List.pairwise_map.mp h.1
  refine List.pairwise_map.mpr (p.imp_of_mem fun {a b} ha hb ne e => ?_)
  obtain ⟨x, y, s, rfl⟩ := h.2 a ha
  obtain ⟨x', y', s', rfl⟩ := h.2 b hb
  have e' : [y, x, s] = [y', x', s'] := e
  simp only [List.cons.injEq, and_true] at e'
  obtain ⟨rfl, rfl, _⟩ := e'
  exact ne rfl
/-- the dict of what lives, the field -/
theorem rows_cells {kvs : List (List Key × V)} {S : Sq} (h : PairD kvs) (z : NZ kvs) (w : S.wf) (l : 1 ≤ S.level) (e : ∀ x y, dv kvs x y = S.val x y) : (rowsD kvs).Perm S.cells :=
  perm_of_mem (rowsD_nodup h) (cells_nodup w) fun t => by
    rw [mem_rowsD h z, mem_cells w l]
    simp only [e]
section
variable {P : Program} {w : World} {K : PySem.W.Frag} {mg : Str → Option Value} {base : Heap}
def sp_walked (C : Addr) : Sp := fun vs H Q _ => ∃ (a : GA) (rows : List (Int × Addr)) (q : List Sq) (n : Nat) (S : Sq), vs = [.ref a.g, .int (n : Int)] ∧ GAt C H a rows q ∧ q[n]? = some S ∧ S.Least ∧ S.level ≤ 42 ∧ q.length ≤ 15000000 ∧ S.lives ≤ 400 ∧
  ∀ H' l xs, Same H H' → H l = none → TL H' l xs → SrtL xs → xs.Perm S.cells → Q (.ref l) H'
theorem mp_walked {C : Addr} : MonP (sp_walked C) := fun vs H Q Q' E h ⟨a, rows, q, n, S, x1, x2, x3, x4, x5, x6, x7, k⟩ => ⟨a, rows, q, n, S, x1, x2, x3, x4, x5, x6, x7, fun H' l xs b c d e f => h _ _ (k H' l xs b c d e f)⟩
set_option maxHeartbeats 8000000 in
theorem ok_walked (T : Env fa fn K mg) : Good P w K mg base CX0 97 ("_law_walked", none) ["_law_grove", "_law_field_here"] (sp_walked (CG K)) := by
  have G_Grove_level_of := ok_level_of (P := P) (w := w) (base := base) T
  have G_w_is_field := ok_is_field (P := P) (w := w) (base := base) T
  have G_w_count := ok_count (P := P) (w := w) (base := base) T 45
  have G_w_within := ok_within (P := P) (w := w) (base := base) T 45
  refine good_mk T 42 (d := d_w_walked) (N := ["_law_grove", "_law_field_here", "_law_known", "_law_half"]) (ps := ["_law_grove", "_law_field_here"]) rfl rfl sc_w_walked (fun _ _ _ _ _ _ us hl => match us, hl with | [_, _], _ => rfl) (fun vs H Q E h => ?_) (fun f cdv A outer σ0 H vs Q E hr h => ?_)
  · obtain ⟨a, rows, q, n, S, rfl, _⟩ := h; rfl
  · obtain ⟨a, rows, q, n, S, rfl, G, hn, hL, l42, hq, hlv, k⟩ := h
    have wS := G.wf _ (List.mem_of_getElem? hn)
    have l1 : 1 ≤ S.level := by rcases hL with h | h <;> omega
    refine ⟨_, (pss_cons (ps_set (i := 2) sc_w_walked.nd rfl (Or.inl rfl) pe_dnewK)
      (pss_cons (ps_if (PW.pt (pw_or (pt_not (pt_val (pe_cgK K rfl G_w_is_field (hr.mono (by decide)) (T.glo 59) (pa_cons (pv 0) (pa_cons (pv 1) (pa_cons (pv 2) pa_nil)))))) (pw_or1 (pt_cmpR op_gt (pe_cgK K rfl G_w_count (hr.mono (by decide)) (T.glo 55) (pa_cons (pv 0) (pa_cons (pv 1) (pa_cons (pv 2) pa_nil)))) pe_int (nomark _))))) (pss_one (ps_ret pe_non)) pss_nil)
      (pss_cons (ps_set (i := 3) sc_w_walked.nd rfl (Or.inl rfl) (pe_op op_fdivW (pe_op op_shl pe_int (pe_mgK K rfl (pv 0) (T.cls 13) (T.meth 25) G_Grove_level_of (hr.mono (by decide)) (pa_cons (pv 1) pa_nil))) pe_int))
      (pss_one (ps_ret (pe_callB (cr_sortTLK K rfl) (by rfl) (T.free 60) (by decide +kernel) (pa_cons (pe_cgK K rfl G_w_within (hr.mono (by decide)) (T.glo 58) (pa_cons (pv 0) (pa_cons (pv 1) (pa_cons (pe_un un_neg (pv 3)) (pa_cons (pe_un un_neg (pv 3)) (pa_cons (pv 2) pa_nil)))))) pa_nil))))))), ?_⟩
    walk_at "rd"
    intro pk hpk
    have s1 := same_upd (o := .dK []) hpk
    have D1 : (upd H pk (.dK [])) pk = some (.dK []) := upd_same
    have out := G.new_out hpk
    have G1 := G.same s1
    generalize upd H pk (.dK []) = H1 at *
    walk_at "rd"
    refine ⟨a, rows, q, n, S, pk, [], rfl, G1, hn, hL, l42, hq, D1, out, KQ.nil, fun H2 k2 f2 D2 K2 => ?_⟩
    have G2 := G1.but f2 D1 out
    walk_at "rd"
    refine ⟨a, rows, q, n, S, pk, k2, rfl, G2, hn, by omega, hq, D2, out, K2, fun H3 k3 f3 D3 K3 => ?_⟩
    have G3 := G2.but f3 D2 out
    walk_at "rd"
    rw [decide_eq_false (show ¬ (400 : Int) < S.lives by omega)]
    walk_at "rd"
    refine rd_methR G3.ob (by rfl) ?_
    walk_at "rd"
    refine ⟨a, rows, q, n, S, rfl, G3, hn, by omega, ?_⟩
    walk_at "rd"
    refine rd_I (by refine ⟨by omega, by omega, by decide⟩) ?_
    rw [shl_ok]
    walk_at "rd"
    have eh : (2 : Int) ^ S.level / 2 = S.half := by
      have := half_two l1
      omega
    rw [eh]
    walk_at "rd"
    refine ⟨a, rows, q, n, S, _, _, pk, k3, rfl, G3, hn, by omega, by omega, hq, D3, out, K3, by omega, fun H4 k4 l f4 D4 K4 hl TL4 => ?_⟩
    obtain ⟨rs, r1, r2⟩ := TL4
    walk_at "rd"
    refine ⟨l, rs, _, 3, rfl, SqL.of r1, r2, by decide, wi_three S _ _, fun rs' ys p pm sr tr hp => ?_⟩
    have s14 : Same H H4 := (((But.of (d := pk) s1).trans f2).trans (f3.trans f4)).same hpk
    have s5 := same_upd (o := .lst (rs'.map V.ref)) hp
    exact k _ p ys (s14.trans s5) (none_ofW s14 hp) ⟨rs', upd_same, tr.keep (Tup.of s5)⟩ sr pm
def sp_sortedD : Sp := fun vs H Q _ => ∃ (pd : Addr) (kvs : List (List Key × V)), vs = [.ref pd] ∧ H pd = some (.dT kvs) ∧ PairD kvs ∧ kvs.length ≤ 5000 ∧ ∀ H' l xs, Same H H' → H l = none → TL H' l xs → SrtL xs → xs.Perm (rowsD kvs) → Q (.ref l) H'
theorem mp_sortedD : MonP sp_sortedD := fun vs H Q Q' E h ⟨pd, kvs, x1, x2, x3, x4, k⟩ => ⟨pd, kvs, x1, x2, x3, x4, fun H' l xs b c d e f => h _ _ (k H' l xs b c d e f)⟩
def sp_cells_by (K : PySem.W.Frag) : Sp := fun vs H Q _ => ∃ (a : Addr) (ns : List Int) (fst : Int) (b : Nat), vs = [.ref a, .int fst, .int (b : Int)] ∧ SqL K H a (ns.map V.int) ∧ 0 ≤ fst ∧ b ≤ 40 ∧
  ∀ H' l (cs : List Cell3), Same H H' → H l = none → TL H' l (cs.map c3) → cs.length ≤ 12 → (∀ c ∈ cs, InGround c.1 c.2.1 ∧ 1 ≤ c.2.2 ∧ c.2.2 ≤ 7) → Q (.ref l) H'
theorem mp_cells_by : MonP (sp_cells_by K) := fun vs H Q Q' E h ⟨a, ns, f, b, x1, x2, x3, x4, k⟩ => ⟨a, ns, f, b, x1, x2, x3, x4, fun H' l cs b c d e f => h _ _ (k H' l cs b c d e f)⟩
theorem ground_of {b : Nat} (hb : b ≤ 40) {x y : Int} (x0 : -(2 ^ b) ≤ x) (x1 : x < 2 ^ b) (y0 : -(2 ^ b) ≤ y) (y1 : y < 2 ^ b) : InGround x y := by
  have e : (2 : Int) ^ 40 = 1099511627776 := by decide
  have h := two_mono hb
  rw [e] at h
  unfold InGround
  omega
end
end JF

/-! ### the squares that come by -/
namespace JF
open PySem PySem.Spec PyProof.Rows L2
/-! #### the squares that come by -/
/-- the squares in a square in which a cell lives -/
def nz : Sq → List Sq
  | .leaf s => if s = 0 then [] else [.leaf s]
  | .node a b c d => if (Sq.node a b c d).lives = 0 then [] else .node a b c d :: (nz a ++ nz b ++ nz c ++ nz d)
def cv (S : Sq) : List Sq := nz S ++ (List.range (S.level + 1)).map fun l => Sq.even l 0
theorem none_even : ∀ {S : Sq}, S.wf → S.lives = 0 → S = Sq.even S.level 0
  | .leaf s, _, h => by
    have h' : (if s = 0 then 0 else 1 : Int) = 0 := h
    split at h'
    · next e => rw [e]; rfl
    · cases h'
  | .node a b c d, ⟨wa, wb, wc, wd, e1, e2, e3⟩, h => by
    have na := a.lives_nonneg; have nb := b.lives_nonneg; have nc := c.lives_nonneg; have nd := d.lives_nonneg
    have h' : a.lives + b.lives + c.lives + d.lives = 0 := h
    have ha := none_even wa (by omega)
    have hb := none_even wb (by omega)
    have hc := none_even wc (by omega)
    have hd := none_even wd (by omega)
    rw [e1] at hb; rw [e2] at hc; rw [e3] at hd
    show _ = Sq.node (Sq.even a.level 0) (Sq.even a.level 0) (Sq.even a.level 0) (Sq.even a.level 0)
    rw [← ha]
    rw [← ha] at hb hc hd
    rw [hb, hc, hd]
theorem cv_self {S : Sq} (w : S.wf) : S ∈ cv S := by
  by_cases h : S.lives = 0
  · refine List.mem_append_right _ (List.mem_map.mpr ⟨S.level, List.mem_range.mpr (by omega), (none_even w h).symm⟩)
  · refine List.mem_append_left _ ?_
    cases S with
    | leaf s =>
      have h' : ¬ (if s = 0 then 0 else 1 : Int) = 0 := h
      show _ ∈ (if s = 0 then [] else [Sq.leaf s])
      by_cases z : s = 0
      · rw [if_pos z] at h'; exact absurd rfl h'
      · rw [if_neg z]; exact List.mem_singleton.mpr rfl
    | node a b c d =>
      show _ ∈ (if (Sq.node a b c d).lives = 0 then [] else Sq.node a b c d :: (nz a ++ nz b ++ nz c ++ nz d))
      rw [if_neg h]
      exact List.mem_cons_self
theorem nz_none : ∀ {S : Sq}, S.lives = 0 → nz S = []
  | .leaf s, h => by
    have h' : (if s = 0 then 0 else 1 : Int) = 0 := h
    show (if s = 0 then [] else [Sq.leaf s]) = []
    split at h'
    · next e => rw [if_pos e]
    · cases h'
  | .node a b c d, h => by
    show (if (Sq.node a b c d).lives = 0 then [] else _) = []
    rw [if_pos h]
theorem cv_child {a b c d T : Sq} (w : (Sq.node a b c d).wf) (hT : T = a ∨ T = b ∨ T = c ∨ T = d) : ∀ U ∈ cv T, U ∈ cv (Sq.node a b c d) := by
  obtain ⟨wa, wb, wc, wd, e1, e2, e3⟩ := w
  have lT : T.level = a.level := by rcases hT with rfl | rfl | rfl | rfl <;> omega
  intro U hU
  rcases List.mem_append.mp hU with hU | hU
  · refine List.mem_append_left _ ?_
    show U ∈ (if (Sq.node a b c d).lives = 0 then [] else Sq.node a b c d :: (nz a ++ nz b ++ nz c ++ nz d))
    by_cases z : (Sq.node a b c d).lives = 0
    · have na := a.lives_nonneg; have nb := b.lives_nonneg; have nc := c.lives_nonneg; have nd := d.lives_nonneg
      have h' : a.lives + b.lives + c.lives + d.lives = 0 := z
      have : nz T = [] := by rcases hT with rfl | rfl | rfl | rfl <;> exact nz_none (by omega)
      rw [this] at hU; cases hU
    · rw [if_neg z]
      refine List.mem_cons_of_mem _ ?_
      simp only [List.mem_append]
      rcases hT with rfl | rfl | rfl | rfl <;> simp [hU]
  · refine List.mem_append_right _ ?_
    obtain ⟨l, hl, e⟩ := List.mem_map.mp hU
    have hl' := List.mem_range.mp hl
    exact List.mem_map.mpr ⟨l, List.mem_range.mpr (by show l < a.level + 1 + 1; omega), e⟩
theorem nz_len : ∀ (S : Sq), S.wf → ((nz S).length : Int) ≤ (S.level + 1) * S.lives
  | .leaf s, _ => by
    show ((if s = 0 then [] else [Sq.leaf s]).length : Int) ≤ (((0 : Nat) : Int) + 1) * (if s = 0 then 0 else 1)
    split <;> simp
  | .node a b c d, ⟨wa, wb, wc, wd, e1, e2, e3⟩ => by
    have ha := nz_len a wa; have hb := nz_len b wb; have hc := nz_len c wc; have hd := nz_len d wd
    rw [e1] at hb; rw [e2] at hc; rw [e3] at hd
    have na := a.lives_nonneg; have nb := b.lives_nonneg; have nc := c.lives_nonneg; have nd := d.lives_nonneg
    have el : (Sq.node a b c d).lives = a.lives + b.lives + c.lives + d.lives := rfl
    have lv : (((Sq.node a b c d).level : Nat) : Int) = (a.level : Int) + 1 := rfl
    rw [lv, el]
    show ((if (Sq.node a b c d).lives = 0 then [] else Sq.node a b c d :: (nz a ++ nz b ++ nz c ++ nz d)).length : Int) ≤ _
    rw [el]
    split
    · next z => rw [z]; simp
    · next z =>
      rw [List.length_cons, List.length_append, List.length_append, List.length_append]
      generalize (a.level : Int) = l at *
      have ex : (l + 1 + 1) * (a.lives + b.lives + c.lives + d.lives) = (l + 1) * a.lives + (l + 1) * b.lives + (l + 1) * c.lives + (l + 1) * d.lives + (a.lives + b.lives + c.lives + d.lives) := by grind
      rw [ex]
      omega
theorem cv_len {S : Sq} (w : S.wf) {n : Nat} (h : S.lives ≤ n) (l : S.level ≤ 42) : (cv S).length ≤ 43 * (n + 1) := by
  unfold cv
  have hn := nz_len S w
  have h0 := S.lives_nonneg
  rw [List.length_append, List.length_map, List.length_range]
  have : ((S.level : Int) + 1) * S.lives ≤ 43 * n := Int.mul_le_mul (by omega) h h0 (by omega)
  omega
theorem KQ.len2 {q : List Sq} {R : Sq → V → Prop} {kvs : List (Key × V)} {l : List Sq} (h : KQ q R kvs) (hq : q.Nodup) (hR : ∀ S v, R S v → S ∈ l) : kvs.length ≤ l.length := by
  let f : Key × V → Sq := fun e => match e.1 with
    | .inl n => q.getD n.toNat (.leaf 0)
    | _ => .leaf 0
  have fe : ∀ e ∈ kvs, ∃ n : Nat, e.1 = Sum.inl (n : Int) ∧ q[n]? = some (f e) ∧ f e ∈ l := fun e he => by
    obtain ⟨n, S, a, b, c⟩ := h.ok e he
    have ef : f e = S := by
      show (match e.1 with | .inl n => q.getD n.toNat (.leaf 0) | _ => .leaf 0) = S
      rw [a]
      show q.getD ((n : Int)).toNat (.leaf 0) = S
      rw [Int.toNat_natCast, List.getD_eq_getElem?_getD, b]; rfl
    exact ⟨n, a, by rw [ef]; exact b, by rw [ef]; exact hR _ _ c⟩
  have nd : (kvs.map f).Nodup := by
    have p : kvs.Pairwise fun a b => a.1 ≠ b.1 := List.pairwise_map.mp h.nd
    refine List.pairwise_map.mpr (p.imp_of_mem fun {a b} ha hb ne e => ?_)
    obtain ⟨n, a1, a2, _⟩ := fe a ha
    obtain ⟨m, b1, b2, _⟩ := fe b hb
    rw [e] at a2
    have : n = m := nodup_at hq a2 b2
    exact ne (by rw [a1, b1, this])
  have := nodup_sub_len (kvs.map f) l nd fun x hx => by
    obtain ⟨e, he, rfl⟩ := List.mem_map.mp hx
    exact (fe e he).choose_spec.2.2
  rwa [List.length_map] at this
end JF

/-! ### fields of the least level with the same values are the same square -/
namespace JF
open PySem PySem.Spec PyProof.Rows L2
theorem sq_ext : ∀ {S T : Sq}, S.wf → T.wf → S.level = T.level → (∀ x y : Int, 0 ≤ x → x < 2 ^ S.level → 0 ≤ y → y < 2 ^ S.level → S.get x y = T.get x y) → S = T
  | .leaf s, .leaf t, _, _, _, h => by
    have e : s = t := h 0 0 (by decide) (by show (0 : Int) < 1; decide) (by decide) (by show (0 : Int) < 1; decide)
    rw [e]
  | .leaf s, .node a b c d, _, _, e, _ => by cases e
  | .node a b c d, .leaf t, _, _, e, _ => by cases e
  | .node a b c d, .node a' b' c' d', w, w', e, h => by
    obtain ⟨wa, wb, wc, wd, e1, e2, e3⟩ := id w
    obtain ⟨wa', wb', wc', wd', f1, f2, f3⟩ := id w'
    have el : a.level = a'.level := by
      have z : a.level + 1 = a'.level + 1 := e
      omega
    have g := fun {u v : Int} (u0 : 0 ≤ u) (u1 : u < 2 ^ a.level) (v0 : 0 ≤ v) (v1 : v < 2 ^ a.level) => get_nodeW w u0 u1 v0 v1
    have g' := fun {u v : Int} (u0 : 0 ≤ u) (u1 : u < 2 ^ a'.level) (v0 : 0 ≤ v) (v1 : v < 2 ^ a'.level) => get_nodeW w' u0 u1 v0 v1
    rw [← el] at g'
    have e2p : (2 : Int) ^ (Sq.node a b c d).level = 2 * 2 ^ a.level := Sq.two_succ _
    rw [e2p] at h
    have hp := Sq.two_pos a.level
    have ha : a = a' := sq_ext wa wa' el fun x y x0 x1 y0 y1 => by
      rw [← (g x0 x1 y0 y1).1, ← (g' x0 x1 y0 y1).1]
      exact h x y x0 (by omega) y0 (by omega)
    have hb : b = b' := sq_ext wb wb' (by omega) fun x y x0 x1 y0 y1 => by
      rw [e1] at x1 y1
      rw [← (g x0 x1 y0 y1).2.1, ← (g' x0 x1 y0 y1).2.1]
      exact h (x + 2 ^ a.level) y (by omega) (by omega) y0 (by omega)
    have hc : c = c' := sq_ext wc wc' (by omega) fun x y x0 x1 y0 y1 => by
      rw [e2] at x1 y1
      rw [← (g x0 x1 y0 y1).2.2.1, ← (g' x0 x1 y0 y1).2.2.1]
      exact h x (y + 2 ^ a.level) x0 (by omega) (by omega) (by omega)
    have hd : d = d' := sq_ext wd wd' (by omega) fun x y x0 x1 y0 y1 => by
      rw [e3] at x1 y1
      rw [← (g x0 x1 y0 y1).2.2.2, ← (g' x0 x1 y0 y1).2.2.2]
      exact h (x + 2 ^ a.level) (y + 2 ^ a.level) (by omega) (by omega) (by omega) (by omega)
    rw [ha, hb, hc, hd]
theorem least_le {S T : Sq} (wT : T.wf) (h1 : 1 ≤ S.level) (hL : T.Least) (hv : ∀ x y, S.val x y = T.val x y) : T.level ≤ S.level := by
  apply Decidable.byContradiction
  intro z
  rcases hL with e | ⟨h2, hl⟩
  · omega
  · obtain ⟨x, y, hxy, hn⟩ := least_out wT h2 hl
    rw [← hv] at hxy
    have y' := (val_in hxy).mono h1 (T.level - 1 - S.level)
    have e : S.level + (T.level - 1 - S.level) = T.level - 1 := by omega
    rw [e] at y'
    exact hn y'
theorem least_eq {S T : Sq} (wS : S.wf) (wT : T.wf) (hS1 : 1 ≤ S.level) (hT1 : 1 ≤ T.level) (hS : S.Least) (hT : T.Least) (hv : ∀ x y, S.val x y = T.val x y) : S = T := by
  have el : S.level = T.level := Nat.le_antisymm (least_le wS hT1 hS fun x y => (hv x y).symm) (least_le wT hS1 hT hv)
  have hh : S.half = T.half := by unfold Sq.half; rw [el]
  have h2 := half_two hS1
  refine sq_ext wS wT el fun x y x0 x1 y0 y1 => ?_
  have z := hv (x - S.half) (y - S.half)
  unfold Sq.val at z
  rw [← hh, if_pos (by omega), if_pos (by omega)] at z
  have e1 : x - S.half + S.half = x := by omega
  have e2 : y - S.half + S.half = y := by omega
  rw [e1, e2] at z
  exact z
end JF

/-! ### defs within defs, handed on to another def -/
namespace JF
open PySem PySem.Spec PyProof.Rows L2 NdefX LamX
section
variable {X : Cx} {pins : List (Addr × Obj)} {σ : L2.St} {H : Hp} {s : Shared}
/-- an address of the base, or of a cell of the running frame -/
def InC (X : Cx) (b : Addr) : Prop := X.base.get? b ≠ none ∨ ∃ y, X.env.cells.lookup y = some b
open Classical in
/-- the base and the running frame's cells -/
noncomputable def baseC (X : Cx) (h : Heap) : Heap := PySem.W.hideAll h ((List.range h.objs.size).filter fun b => decide (¬ InC X b))
open Classical in
theorem baseC_get {h : Heap} {b : Addr} {o : Obj} (e : h.get? b = some o) (n : InC X b) : (baseC X h).get? b = some o :=
  PySem.W.hideAll_get _ e fun hm => of_decide_eq_true (List.mem_filter.mp hm).2 n
open Classical in
theorem of_baseC {h : Heap} {b : Addr} {o : Obj} (e : (baseC X h).get? b = some o) : h.get? b = some o ∧ InC X b := by
  have e' := PySem.W.of_hideAll _ e
  refine ⟨e', Classical.byContradiction fun n => ?_⟩
  have z : (baseC X h).get? b = none := PySem.W.hideAll_none _ (List.mem_filter.mpr ⟨List.mem_range.mpr (Heap.lt_size e'), decide_eq_true n⟩)
  rw [e] at z
  cases z
theorem env0C (I : Inv X pins σ H s) (hfn : ∀ y, X.fn y = true) : Env0 X.prog X.w X.K X.mg (baseC X s.heap) X.A X.stack s H := by
  have k : ∀ b o, X.base.get? b = some o → (baseC X s.heap).get? b = some o := fun b o e => baseC_get (I.bk b o e) (.inl (by rw [e]; simp))
  refine ⟨I.ok.frames, ?_, ?_, ?_, ?_, I.stkFree, I.hok, I.bare⟩
  · obtain ⟨k1, k2, ⟨mb, k3, k4⟩, k5⟩ := I.ok.mod
    exact ⟨k1.keeps k, k2.keeps k, ⟨mb, k3.keeps k, k4⟩, k5.keeps k⟩
  · intro b o e
    obtain ⟨e', n⟩ := of_baseC e
    refine ⟨e', ?_⟩
    rcases n with n | ⟨y, n⟩
    · cases z : X.base.get? b with
      | none => exact absurd z n
      | some o' => exact (I.bs b o' z).2
    · exact I.freeC y b n
  · exact Nat.le_of_eq (PySem.W.hideAll_size _ _)
  · refine funFrames_none I.stack fun L hL => ?_
    cases z : (baseC X s.heap).get? L with
    | none => rfl
    | some o =>
      obtain ⟨e', n⟩ := of_baseC z
      rcases n with n | ⟨y, n⟩
      · exact absurd (I.stack.mem hL).1 n
      · rcases List.mem_cons.mp (I.stkSub L hL) with hl | hl
        · obtain ⟨m, ⟨o2, es, ep, e2, d2, _⟩, _⟩ := I.loc
          obtain ⟨v, o3, e3, d3⟩ := I.cell y L n
          rw [hl, e2] at e3
          cases e3
          rw [d2] at d3
          cases d3
        · have c1 := I.ok.cab y L (hfn y) n
          obtain ⟨o3, e3, _⟩ := (I.ok.funs.mem hl).2
          have := Heap.lt_size e3
          exact absurd (Nat.lt_of_lt_of_le this c1) (Nat.lt_irrefl _)
end
/-- a made function keeps a promise wherever the base is -/
def FnV (P : Program) (w : World) (K : PySem.W.Frag) (mg : Str → Option Value) (base : Heap) (CX : CXT) (k : Nat) (f : Addr) (F : NF) (sp : Sp) : Prop :=
  ∀ (A : Around) (outer : List PySem.Env) (s : Shared) (H : Hp) (us : List Value) (vs : List V) (Q : VK) (E : XK), Room k A → Env0 P w K mg base A outer s H → H f = some (FnO f F) → H F.c = some (CodeO F.c F.qual) → Vals vs us → sp vs H Q E →
    codeAny (model P w) A (.call (.ref f) ⟨us, []⟩) (CR CX outer P w H s Q E) s
/-- the cells that a function captured lie in the base -/
structure CellsB (base : Heap) (cl : List (Str × Addr)) (fr : List Str) (ws : List (Option V)) : Prop where
  len : ws.length = fr.length
  all : ∀ y c, cl.lookup y = some c → ∃ v, base.IsCell c v
  inj : ∀ x y c, cl.lookup x = some c → cl.lookup y = some c → x = y
  has : ∀ (i : Nat) (y : Str), fr[i]? = some y → ∃ c, cl.lookup y = some c ∧ ∀ v, ws[i]? = some (some v) → ∃ u, L2.RelV v u ∧ base.IsCell c (some u)
section
variable {P : Program} {w : World} {K : PySem.W.Frag} {mg : Str → Option Value} {base : Heap} {cl : List (Str × Addr)} {fr : List Str} {ws : List (Option V)} {CX : CXT} {k j : Nat} {f : Addr} {F : NF} {ps : List Str}
theorem CellsB.at {A : Around} {outer : List PySem.Env} {s : Shared} {H : Hp} (C : CellsB base cl fr ws) (e0 : Env0 P w K mg base A outer s H) : CellsAt cl fr ws s.heap H :=
  ⟨C.len, fun y c e => let ⟨v, o, h1, h2⟩ := C.all y c e; ⟨(e0.bs c o h1).2, v, o, (e0.bs c o h1).1, h2⟩, C.inj, fun i y e => let ⟨c, h1, h2⟩ := C.has i y e; ⟨c, h1, fun v ev => let ⟨u, r, o, h3, h4⟩ := h2 v ev; ⟨u, r, o, (e0.bs c o h3).1, h4⟩⟩⟩
theorem fnV_of {sp : List (Option V) → Sp} (N : NOk P w K mg base CX k f F ps fr sp) (C : CellsB base F.cl fr ws) : FnV P w K mg base CX k f F (sp ws) :=
  fun A outer s H us vs Q E hr e0 h1 h2 r q => N.run A outer s H us vs ws Q E hr e0 h1 h2 (C.at e0) r q
theorem FnV.imp {sp sp' : Sp} (V : FnV P w K mg base CX k f F sp) (h : ∀ vs H Q E, sp' vs H Q E → sp vs H Q E) : FnV P w K mg base CX k f F sp' := fun A outer s H us vs Q E hr e0 h1 h2 r q => V A outer s H us vs Q E hr e0 h1 h2 r (h _ _ _ _ q)
theorem FnV.mono {sp : Sp} (V : FnV P w K mg base CX j f F sp) (h : j ≤ k) : FnV P w K mg base CX k f F sp := fun A outer s H us vs Q E hr => V A outer s H us vs Q E (hr.mono h)
end
section
variable {X : Cx} {pins : List (Addr × Obj)} {σ : L2.St} {H : Hp} {s : Shared} {cl : List (Str × Addr)} {fr : List Str} {js : List Nat}
theorem cellsB (I : Inv X pins σ H s) (c : Caps X cl fr js) : CellsB (baseC X s.heap) cl fr (js.map (slotAt σ)) := by
  have C := cells_of I c
  have up : ∀ y a v, cl.lookup y = some a → s.heap.IsCell a v → (baseC X s.heap).IsCell a v := fun y a v e ⟨o, h1, h2⟩ => ⟨o, baseC_get h1 (.inr ⟨y, c.sub y a e⟩), h2⟩
  exact ⟨C.len, fun y a e => let ⟨_, v, h⟩ := C.all y a e; ⟨v, up y a v e h⟩, C.inj, fun i y e => let ⟨a, h1, h2⟩ := C.has i y e; ⟨a, h1, fun v ev => let ⟨u, r, h3⟩ := h2 v ev; ⟨u, r, up y a _ h1 h3⟩⟩⟩
end
/-- f(..), f a name that holds the made function F -/
def tCallV (i : Nat) (f : Addr) (F : NF) (sp : Sp) (E : XK) (t : TA) : TE := fun σ H Q => σ[i]? = some (some (.ref f)) ∧ H f = some (FnO f F) ∧ t σ H fun vs H1 => H1 f = some (FnO f F) ∧ H1 F.c = some (CodeO F.c F.qual) ∧ sp vs H1 Q E
/-- f(..), f a def of the module that is handed functions made here -/
def tCallC (X : Cx) (k : Nat) (p : Str × Option Str) (ps : List Str) (E : XK) (t : TA) : TE := fun σ H Q => t σ H fun vs H1 => ∃ sp, (∀ base', X.Ok → (∀ cl fr js, Caps X cl fr js → CellsB base' cl fr (js.map (slotAt σ))) → Good X.prog X.w X.K X.mg base' CX0 k p ps sp) ∧ sp vs H1 Q E
section
variable {X : Cx} {k : Nat} {x : Str} {ps : List Str} {i : Nat} {f : Addr} {F : NF} {sp : Sp} {t : TA} {e : Expr} {es : List Expr} {p pos : Pos}
theorem pe_cgV (V : FnV X.prog X.w X.K X.mg X.base CX0 k f F sp) (hr : Room k X.A) (hN : X.N[i]? = some x) (hv : Vis X.env.scope x) (ha : PA X (e :: es) t)
    (hd : (x == ("__debug__" : Str)) = false := by decide) (hcd : (x == ("__classdict__" : Str)) = false := by decide)
    (he : starEach (e :: es) X.env = (false, eval e X.env) :: starEach es X.env := by rfl) (hpl : (backTo pos (starEach es X.env)).any (·.1) = false := by rfl) :
    PE X (.Call (.Name x p) (e :: es) [] pos) (tCallV i f F sp E0 t) := by
  refine ⟨fun pins s σ H Q I h => ?_⟩
  obtain ⟨hs, hf, ht⟩ := h
  refine wpAny_Call_Name_kw (thn ((pe_var (pos := p) hN hv hd hcd).run pins s σ H (fun v H1 => v = .ref f ∧ H1 = H) I ⟨.ref f, hs, rfl, rfl⟩) fun u s1 ⟨v, H1, I1, r1, q1⟩ => ?_)
  obtain ⟨ev, eH⟩ := q1
  subst ev
  rw [eH] at I1
  obtain rfl : u = Value.ref f := r1
  refine PySem.W.callWith_F (first := []) (fnAt_of I1 hf) (thn (ha.run pos pins s1 σ H _ I1 ht) fun us s2 ⟨vs, H2, I2, r, h1, h2, q⟩ => ⟨fnAt_of I2 h1, ?_⟩) he hpl
  show wpAny _ _ (call (.ref f) us) _ _ _
  refine wpAny_call (codeAny_mono (V X.A X.stack s2 H2 us vs Q E0 hr I2.env0 h1 h2 r q) fun r s' hq => ?_)
  cases r with
  | error e => exact (pass0 : Passes CX0 X E0) pins σ H2 s2 e s' I2 hq
  | ok fl =>
    cases fl with
    | ret u => exact I2.after hq
    | next => exact False.elim hq
    | brk => exact False.elim hq
    | cont => exact False.elim hq
theorem pe_cgC {sp0 : Sp} (G0 : Good X.prog X.w X.K X.mg X.base CX0 k (x, none) ps sp0) (hr : Room k X.A) (hfn : ∀ y, X.fn y = true) (hm : X.mg x = some (.ref (He.ga X.K x))) (ha : PA X (e :: es) t) (hg : Gl X x := by rfl)
    (hdb : (x == ("__debug__" : Str)) = false := by decide) (he : starEach (e :: es) X.env = (false, eval e X.env) :: starEach es X.env := by rfl) (hpl : (backTo pos (starEach es X.env)).any (·.1) = false := by rfl) :
    PE X (.Call (.Name x p) (e :: es) [] pos) (tCallC X k (x, none) ps E0 t) := by
  obtain ⟨fd, F0, b, kp, lk⟩ := G0
  refine ⟨fun pins s σ H Q I h => ?_⟩
  refine wpAny_Call_Name_kw (ld_glob I hg hm ?_ hdb)
  refine PySem.W.callWith_K (h₀ := X.base) I.ok.mod.kin kp (thn (ha.run pos pins s σ H _ I h) fun us s1 ⟨vs, H1, I1, r, q⟩ => ⟨I1.kIn, ?_⟩) he hpl
  obtain ⟨sp, hG, q⟩ := q
  obtain ⟨fd2, F, b2, kp2, lk2⟩ := hG (baseC X s1.heap) I1.ok fun cl fr js c => cellsB I1 c
  cases lk.eq lk2
  have hl : us.length = ps.length := by rw [← r.length]; exact F.len _ _ _ _ q
  have hb := b s1 us I1.kIn (by rw [List.append_nil]; exact hl)
  rw [List.append_nil] at hb
  refine wpAny_call (codeAny_mono (F.run X.A X.stack s1 H1 ⟨us, []⟩ us vs Q E0 hr (env0C I1 hfn) hb r q) fun r s' hq => ?_)
  cases r with
  | error e => exact (pass0 : Passes CX0 X E0) pins σ H1 s1 e s' I1 hq
  | ok fl =>
    cases fl with
    | ret u => exact I1.after hq
    | next => exact False.elim hq
    | brk => exact False.elim hq
    | cont => exact False.elim hq
end
/-! a def whose code object's place is asked for -/
section
variable {P : Program} {w : World} {K : PySem.W.Frag} {mg : Str → Option Value} {base : Heap} {fa : List He.Fa} {fn : List He.DefD}
theorem good_mkC (T : Env fa fn K mg) (i : Nat) {d : He.DefD} {k : Nat} {N ps : List Str} {sp : Sp} {x qual : Str} {st : Stmt} {at_ : Str × Option Str} (hi : fn[i]? = some d) (hd : d = ⟨at_, x, qual, defArgs st, defBody st, defScope st, [], []⟩) (S : FnScope N ps (defScope st))
    (hb : ∀ (kV doc pm : Value) (an : Option Addr) (cdv ct : Value) (us : List Value), us.length = ps.length → bindArgs (PySem.W.fnOf x qual (defArgs st) (defBody st) (defScope st) .none kV doc pm an cdv ct) ⟨us, []⟩ = pure (ps.zip us))
    (len : ∀ vs H Q E, sp vs H Q E → vs.length = ps.length)
    (hbody : ∀ (f : Addr) (A : Around) (outer : List PySem.Env) (s : Shared) (H : Hp) (vs : List V) (Q : VK) (E : XK), Room k (A.deeper (envOfC qual (defScope st) s.heap.objs.size f (.ref (He.codeOf K at_)))) → sp vs H Q E →
      ∃ t, PSs (cxOf CX0 P w K mg base N qual (defScope st) f (.ref (He.codeOf K at_)) A outer s H E).nox (defBody st) t ∧ t { nx := fun _ H' => Q .non H', rt := Q } (start N vs) H) : Good P w K mg base CX0 (k + 1) at_ ps sp := by
  subst hd
  obtain ⟨fd, F⟩ := T.c.def_ i hi
  have FA := fdAt_of (p := at_) F
  refine ⟨fd, ?_, FunD.bindsN F hb, F.kp, FA⟩
  obtain ⟨oc, od, dV, kV, doc, pm, an, cdv, ct, osl, rfl, lk, hcd, h1, h2⟩ := F.ex
  obtain ⟨c, rfl⟩ := He.codeIn_ref hcd
  have ec : He.codeOf K at_ = c := He.codeOf_eq lk rfl
  refine fn_of lk hcd S len fun A outer s H vs Q E hr h => ?_
  obtain ⟨t, h1, h2⟩ := hbody _ A outer s H vs Q E (by rw [ec]; exact hr) h
  rw [ec] at h1
  exact ⟨t, h1.nox, h2⟩
end
/-! ### a law with tables of code objects -/
/-- the law's row, by a frame that is told with the heap -/
theorem walk_ofTE {l : PySem.W.OpenLaw} {n k : Nat} {q : Program} {loose : List Str} {XP : (Str → Option Value) → Heap → Prop} {YP : World → Heap → Prop} {d : DefRec} {CX : CXT} {x : Str}
    (hn : l.most = some n) (hn2 : n ≤ sizeLine) (hdf : d.params.defaults = []) (hr : Room k callerA)
    (F : ∀ (w : World) (mg : Str → Option Value) (fa : Addr) (h : Heap), YP w h → h.Ns mainGlobals mg → mg d.name = some (.ref fa) → ∃ K : PySem.W.Frag, K.In h ∧ LamX.LawAtS l w K CX k n x mg fa h)
    (hCX : ∀ (H : Hp) (s : Shared) (e : Value) (s' : Shared), CX [] H s (fun _ _ _ => False) e s' → False) :
    PySem.W.WalkO q loose XP YP l.row.toRowW d [] (fun f vs => PySem.call f vs) := by
  refine Att.attach_callB hn hdf fun w s₀ s₁ mg mb fa o pm cd doc a vs ns G Y ho hd hcd hmg hobj hints hlen hbits hg => ?_
  obtain ⟨K, KX, fd, cs, sp, hT, nT, C, hb, hsp, hF⟩ := F w mg fa _ Y G.T.g hmg
  exact LamX.law_callTs KX G.T.g G.T.b G.T.builtins G.T.nolimit hg hT nT C G.T.bmain hobj hints (Nat.le_trans hlen hn2) hr hF hb (fun H hH hS => hsp H a ns hlen hbits hH hS) fun H e s' => hCX H s₁ e s'
end JF

/-! ### dicts whose keys are tuples of a number and a tuple of numbers -/
namespace JF
open PySem PySem.Spec PyProof.Rows L2
def nk (n : Int) (l : List Int) : NestedKey := .tup [.num n, .tup (l.map .num)]
theorem num_inj : ∀ {l m : List Int}, l.map NestedKey.num = m.map NestedKey.num → l = m
  | [], [], _ => rfl
  | [], _ :: _, h => by cases h
  | _ :: _, [], h => by cases h
  | a :: l, b :: m, h => by
    rw [List.map_cons, List.map_cons] at h
    injection h with h1 h2
    injection h1 with h1
    rw [h1, num_inj h2]
theorem nk_inj {n m : Int} {l k : List Int} (h : nk n l = nk m k) : n = m ∧ l = k := by
  unfold nk at h
  injection h with h
  injection h with h1 h2
  injection h1 with h1
  injection h2 with h2 h3
  injection h2 with h2
  exact ⟨h1, num_inj h2⟩
def KAtN (H : Hp) (b : Addr) (k : NestedKey) : Prop := ∃ n l p, k = nk n l ∧ H b = some (.tup [.int n, .ref p]) ∧ H p = some (.tup (l.map V.int))
theorem KAtN.keep {H H' : Hp} {b : Addr} {k : NestedKey} (h : KAtN H b k) (t : Tup H H') : KAtN H' b k := let ⟨n, l, p, e, h1, h2⟩ := h; ⟨n, l, p, e, t _ _ h1, t _ _ h2⟩
abbrev KTN (H : Hp) : List (NestedKey × V) → List (NestedKey × Addr × Value) → Prop := Paired fun p q => p.1 = q.1 ∧ KAtN H q.2.1 p.1 ∧ RelV p.2 q.2.2
theorem KTN.val {H : Hp} {kvs : List (NestedKey × V)} {xs : List (NestedKey × Addr × Value)} (r : KTN H kvs xs) (k : NestedKey) : RelO (valV kvs k) ((atKey xs k).map (·.2)) := by
  induction r with
  | nil => exact True.intro
  | @cons p q ps qs h t ih =>
    obtain ⟨h1, _, h2⟩ := h
    by_cases e : p.1 = k
    · have e' : q.1 = k := h1.symm.trans e
      have b : atKey (q :: qs) k = some q.2 := by simp [atKey, List.find?_cons, e']
      rw [valV_pos e, b]; exact h2
    · have e' : ¬ q.1 = k := fun z => e (h1.trans z)
      have b : atKey (q :: qs) k = atKey qs k := by simp [atKey, List.find?_cons, e']
      rw [valV_neg e, b]; exact ih
theorem KTN.repl {H : Hp} {kvs : List (NestedKey × V)} {xs : List (NestedKey × Addr × Value)} (r : KTN H kvs xs) (k : NestedKey) {y : V} {u : Value} (ry : RelV y u) : KTN H (kvs.map fun kv => if kv.1 = k then (kv.1, y) else kv) (xs.map (putAt k u)) := by
  induction r with
  | nil => exact .nil
  | @cons p q ps qs h t ih =>
    rw [List.map_cons, List.map_cons]
    refine .cons ?_ ih
    obtain ⟨h1, h2, h3⟩ := h
    unfold putAt
    by_cases e : p.1 = k
    · rw [if_pos e, if_pos (h1.symm.trans e)]; exact ⟨h1, h2, ry⟩
    · rw [if_neg e, if_neg (fun z => e (h1.trans z))]; exact ⟨h1, h2, h3⟩
theorem KTN.put {H : Hp} {kvs : List (NestedKey × V)} {xs : List (NestedKey × Addr × Value)} (r : KTN H kvs xs) (k : NestedKey) {b : Addr} {y : V} {u : Value} (hb : KAtN H b k) (ry : RelV y u) : KTN H (putK kvs k y) (storedH xs k b u) := by
  have e : (kvs.any fun kv => decide (kv.1 = k)) = (atKey xs k).isSome := by
    rw [valV_any, (r.val k).isSome_eq, Option.isSome_map]
  unfold putK storedH
  rw [e]
  by_cases q : (atKey xs k).isSome = true
  · rw [if_pos q, if_pos q]; exact r.repl k ry
  · rw [if_neg q, if_neg q]; exact Paired.snoc r ⟨rfl, hb, ry⟩
theorem KTN.keep {H H' : Hp} {kvs : List (NestedKey × V)} {xs : List (NestedKey × Addr × Value)} (r : KTN H kvs xs) (t : Tup H H') : KTN H' kvs xs := Paired.mapP r fun _ _ z => ⟨z.1, z.2.1.keep t, z.2.2⟩
/-- the dict's object, raw -/
def DNo (P : Program) (w : World) (d : Addr) (xs : List (NestedKey × Addr × Value)) : HO := .ext fun h => ∃ o es ep, h.get? d = some o ∧ o.ExactDict ∧ o.data = .dict es ep ∧ es.toList = xs.map (entryOfKey (nestedKind P w))
structure ND (P : Program) (w : World) (H : Hp) (d : Addr) (kvs : List (NestedKey × V)) : Prop where
  sz : kvs.length ≤ sizeLine
  sys : (d == sysModules) = false
  at_ : ∃ xs, H d = some (DNo P w d xs) ∧ KTN H kvs xs ∧ (xs.map (·.1)).Nodup
section
variable {P : Program} {w : World} {H H' : Hp} {h : Heap} {d b : Addr} {kvs : List (NestedKey × V)} {k : NestedKey}
theorem ND.keep (n : ND P w H d kvs) (t : Tup H H') (e : ∀ o, H d = some o → H' d = some o) : ND P w H' d kvs := ⟨n.sz, n.sys, let ⟨xs, a, b, c⟩ := n.at_; ⟨xs, e _ a, b.keep t, c⟩⟩
theorem ND.some (n : ND P w H d kvs) : ∃ φ, H d = some (.ext φ) := let ⟨_, a, _⟩ := n.at_; ⟨_, a⟩
theorem nested_ints {h : Heap} : ∀ {l : List Int} {its : List Value}, Vals (l.map V.int) its → NestedAll h (l.map NestedKey.num) its
  | [], _, r => by
    rw [List.map_nil] at r
    cases r
    exact .nil
  | i :: l, _, r => by
    rw [List.map_cons] at r
    cases r with
    | cons r1 r2 =>
      obtain ⟨t, rfl⟩ := r1
      exact .cons (.int i t) (nested_ints r2)
theorem depth_nums : ∀ l : List Int, NestedKey.depthAll (l.map NestedKey.num) = 0
  | [] => rfl
  | i :: l => by
    rw [List.map_cons]
    show max 0 (NestedKey.depthAll (l.map NestedKey.num)) = 0
    rw [depth_nums l]
    rfl
theorem keyN_of (ok : HOk P w H h) (e : KAtN H b k) : (nestedKind P w).is h k b := by
  obtain ⟨n, l, p, rfl, h1, h2⟩ := e
  obtain ⟨_, its, r, o, a1, a2, m, a3⟩ := (show ObjOk P w H h b (.tup [.int n, .ref p]) from ok b _ h1)
  obtain ⟨_, its2, r2, o2, b1, b2, m2, b3⟩ := (show ObjOk P w H h p (.tup (l.map V.int)) from ok p _ h2)
  cases r with
  | cons r1 rt =>
    cases rt with
    | cons r3 rn =>
      cases rn
      obtain ⟨t, rfl⟩ := r1
      obtain rfl := r3
      refine ⟨.tup a1 a2 a3 ?_, ?_⟩
      · exact .cons (.int n t) (.cons (.tup b1 b2 b3 (nested_ints r2)) .nil)
      · show max 0 (max (NestedKey.depthAll (l.map NestedKey.num) + 1) 0) + 1 ≤ 8
        rw [depth_nums]
        decide
theorem ndk_of (ok : HOk P w H h) (e : ND P w H d kvs) : ∃ xs, H d = Option.some (DNo P w d xs) ∧ KTN H kvs xs ∧ h.DictOfH (nestedKind P w) d xs := by
  obtain ⟨xs, e1, r, nd⟩ := e.at_
  obtain ⟨⟨o, es, ep, h1, h2, h3, h4⟩, _, _⟩ := (show ObjOk P w H h d (DNo P w d xs) from ok d _ e1)
  refine ⟨xs, e1, r, o, es, ep, h1, h2, h3, h4, fun x hx => ?_, nd⟩
  have all : ∀ {l : List (NestedKey × V)} {m : List (NestedKey × Addr × Value)}, KTN H l m → ∀ x ∈ m, (nestedKind P w).is h x.1 x.2.1 := by
    intro l m q
    induction q with
    | nil => intro x hx; exact nomatch hx
    | @cons p q ps qs hq t ih =>
      intro x hx
      rcases List.mem_cons.mp hx with e | hx
      · subst e
        exact keyN_of ok (by rw [← hq.1]; exact hq.2.1)
      · exact ih x hx
  exact all r x hx
end
/-- readings -/
def tNGet (P : Program) (w : World) (td ty : TE) : TE := fun σ H Q => td σ H fun x H1 => ty σ H1 fun y H2 => ∃ d b kvs k v, x = .ref d ∧ y = .ref b ∧ ND P w H2 d kvs ∧ KAtN H2 b k ∧ valV kvs k = some v ∧ Q v H2
def tNNotIn (P : Program) (w : World) (ty td : TE) : TE := fun σ H Q => ty σ H fun y H1 => td σ H1 fun x H2 => ∃ d b kvs k, x = .ref d ∧ y = .ref b ∧ ND P w H2 d kvs ∧ KAtN H2 b k ∧ Q (.bl (!(valV kvs k).isSome)) H2
def sNPut (P : Program) (w : World) (td ty tv : TE) : TS := fun D σ H => tv σ H fun v H1 => td σ H1 fun x H2 => ty σ H2 fun y H3 => ∃ d b kvs k, x = .ref d ∧ y = .ref b ∧ ND P w H3 d kvs ∧ KAtN H3 b k ∧ kvs.length < sizeLine ∧
  ∀ H4, ND P w H4 d (putK kvs k v) → (∀ c, c ≠ d → H4 c = H3 c) → D.nx σ H4
def tNNew (P : Program) (w : World) : TE := fun _ H Q => ∀ d H', H d = none → ND P w H' d [] → (∀ c, c ≠ d → H' c = H c) → Q (.ref d) H'
section
variable {X : Cx} {o i e value : Expr} {pos pos' : Pos} {td ty tv : TE}
theorem roomN {A : Around} (hu : A.units + 64 < cLine) : (nestedKind X.prog X.w).room A.in1 := by
  show A.in1.units + 8 < cLine
  have : A.in1.units ≤ A.units + 1 := by
    unfold Around.units Around.in1
    simp
  omega
theorem pe_ngetK (P : Program) (w : World) (hP : X.prog = P) (hw : X.w = w) (hu : X.A.units + 64 < cLine) (ho : PE X o td) (hi : PE X i ty) (hs : NoSl i) : PE X (.Subscript o i pos) (tNGet P w td ty) := by
  subst hP hw
  refine ⟨fun pins s σ H Q I h => ?_⟩
  refine subD_of PySem.F.slot_dict_getitem.lookup hs (thn (ho.run pins s σ H _ I h) fun u s1 ⟨x, H1, I1, rx, q1⟩ => thn (hi.run pins s1 σ H1 _ I1 q1) fun iv s2 ⟨y, H2, I2, ry, d, b, kvs, k, v, ex, ey, n, kb, hv, q2⟩ => ?_)
  subst ex ey
  obtain rfl : u = Value.ref d := rx
  obtain rfl : iv = Value.ref b := ry
  obtain ⟨xs, e1, r, dd⟩ := ndk_of I2.hok n
  obtain ⟨w', hw, rw'⟩ := RelO.some_of (v := v) (o := (atKey xs k).map (·.2)) (by rw [← hv]; exact r.val k)
  obtain ⟨p, hp, hp2⟩ := Option.map_eq_some_iff.mp hw
  refine ⟨dd.typeIs, wpAny_getItem_heap (roomN hu) (keyN_of I2.hok kb) dd hp ?_⟩
  rw [hp2]
  exact ⟨v, H2, I2.tok _, rw', q2⟩
theorem pc_nnotinK (P : Program) (w : World) (hP : X.prog = P) (hw : X.w = w) (hu : X.A.units + 64 < cLine) (hi : PE X i ty) (ho : PE X o td) : PC X .NotIn i o (tNNotIn P w ty td) := by
  subst hP hw
  refine ⟨fun pins s σ H Q I h => ?_⟩
  refine thn (hi.run pins s σ H _ I h) fun iv s1 ⟨y, H1, I1, ry, q1⟩ => thn (ho.run pins s1 σ H1 _ I1 q1) fun u s2 ⟨x, H2, I2, rx, d, b, kvs, k, ex, ey, n, kb, q2⟩ => ?_
  subst ex ey
  obtain rfl : u = Value.ref d := rx
  obtain rfl : iv = Value.ref b := ry
  obtain ⟨xs, e1, r, dd⟩ := ndk_of I2.hok n
  refine wpAny_notIn_heap (roomN hu) (keyN_of I2.hok kb) n.sys dd ?_
  have q := (r.val k).isSome_eq
  rw [Option.isSome_map] at q
  rw [← q]
  exact ⟨.bl (!(valV kvs k).isSome), H2, I2.tok _, rfl, q2⟩
theorem ps_nputK (P : Program) (w : World) (hP : X.prog = P) (hw : X.w = w) (hu : X.A.units + 64 < cLine) (ho : PE X o td) (hi : PE X i ty) (hv : PE X value tv) (hs : swapsWith value (some (.Subscript o i pos')) pos.line X.env = pure false) :
    PS X (.Assign [.Subscript o i pos'] value pos) (sNPut P w td ty tv) := by
  subst hP hw
  refine ⟨fun pins s σ H D I h => ?_⟩
  refine wpAny_Assign_Subscript (thn (hv.run pins s σ H _ I h) fun r s1 ⟨v, H1, I1, rv, q1⟩ => thn (ho.run pins s1 σ H1 _ I1 q1) fun u s2 ⟨x, H2, I2, rx, q2⟩ => thn (hi.run pins s2 σ H2 _ I2 q2) fun iv s3 ⟨y, H3, I3, ry, d, b, kvs, k, ex, ey, n, kb, hl, q3⟩ => ?_) hs
  subst ex ey
  obtain rfl : u = Value.ref d := rx
  obtain rfl : iv = Value.ref b := ry
  obtain ⟨xs, e1, rl, dd⟩ := ndk_of I3.hok n
  have hz : xs.length ≤ sizeLine := by rw [← Paired.length rl]; exact n.sz
  have hl2 : (putK kvs k v).length ≤ sizeLine := by have := length_putK kvs k v; omega
  refine wpAny_setItem_heap (hsz := hz) (roomN hu) (keyN_of I3.hok kb) dd fun h' dd' hs => ?_
  obtain ⟨q, es, ep, hq, h2, h3, h4, _, h5⟩ := dd'
  have I4 := d_write (t' := s3.toks + (nestedKind X.prog X.w).draws k) (ob := DNo X.prog X.w d (storedH xs k b r)) I3 (by rw [e1]; exact True.intro) hs ⟨q, hq⟩ ⟨⟨q, es, ep, hq, h2, h3, h4⟩, ⟨q, hq⟩, fun h1 h2' ⟨o, es, ep, z, z'⟩ st => ⟨o, es, ep, st _ z, z'⟩⟩
  have tu : Tup H3 (upd H3 d (DNo X.prog X.w d (storedH xs k b r))) := fun c ys ec => by
    rw [upd_ne (fun z => by rw [z, e1] at ec; cases ec)]; exact ec
  exact ⟨σ, _, I4, q3 _ ⟨hl2, n.sys, _, upd_same, (rl.put k kb rv).keep tu, h5⟩ fun c hc => upd_ne hc⟩
theorem pe_nnewK (P : Program) (w : World) (hP : X.prog = P) (hw : X.w = w) : PE X (.Dict [] [] pos) (tNNew P w) := by
  subst hP hw
  refine ⟨fun pins s σ H Q I h => wpAny_Dict_empty ⟨.ref s.heap.objs.size, _, I.laid (a := s.heap.objs.size) (o := DNo X.prog X.w s.heap.objs.size []) (t' := s.toks) (fun _ _ q => Heap.get?_push_of_some _ q) (Nat.le_refl _) ?_, rfl, ?_⟩⟩
  · have hg : (s.heap.push { cls := .type "dict", data := .dict #[] }).get? s.heap.objs.size = some { cls := .type "dict", data := .dict #[] } := Heap.get?_push_size _ rfl
    exact ⟨⟨_, #[], 0, hg, ⟨rfl, rfl, rfl⟩, rfl, rfl⟩, ⟨_, hg⟩, fun h1 h2 ⟨o, es, ep, z, z'⟩ st => ⟨o, es, ep, st _ z, z'⟩⟩
  · exact h _ _ (I.hok.fresh (Nat.le_refl _)) ⟨Nat.zero_le _, beq_eq_false_iff_ne.mpr (Ne.symm (Nat.ne_of_lt I.big)), [], upd_same, .nil, List.nodup_nil⟩ fun c hc => upd_ne hc
end
end JF

/-! ### boxes painted -/
namespace JF
open PySem PySem.Spec PyProof.Rows L2 NdefX LamX
/-! #### the plain law -/
/-- a square whose cells are changed by one map in a box, by another one outside of it -/
structure PB (hi ho : Int → Int) (l t w h : Int) (S R : Sq) : Prop where
  lv : R.level = S.level
  wf : R.wf
  gt : ∀ x y : Int, 0 ≤ x → x < 2 ^ S.level → 0 ≤ y → y < 2 ^ S.level → R.get x y = if l ≤ x ∧ x < l + w ∧ t ≤ y ∧ y < t + h then hi (S.get x y) else ho (S.get x y)
/-- a deed done to a whole square -/
structure Deed (f : Sq → Sq) (g : Int → Int) : Prop where
  lv : ∀ S, S.wf → (f S).level = S.level
  wf : ∀ S, S.wf → (f S).wf
  gt : ∀ S, S.wf → ∀ x y : Int, 0 ≤ x → x < 2 ^ S.level → 0 ≤ y → y < 2 ^ S.level → (f S).get x y = g (S.get x y)
theorem Deed.id : Deed (fun S => S) (fun s => s) := ⟨fun _ _ => rfl, fun _ h => h, fun _ _ _ _ _ _ _ _ => rfl⟩
theorem Deed.even {s : Int} (h0 : 0 ≤ s) (h7 : s ≤ 7) : Deed (fun S => Sq.even S.level s) (fun _ => s) := ⟨fun _ _ => Sq.level_even _ _, fun _ _ => Sq.wf_even h0 h7 _, fun S _ x y _ _ _ _ => Sq.get_even _ _ _ _⟩
/-- a box as it lies in a square: its left, upper, right and lower ends -/
def cL (l : Int) : Int := if l < 0 then 0 else l
def cR (r s : Int) : Int := if r < s then r else s
theorem PB.out {hi ho : Int → Int} {f : Sq → Sq} (D : Deed f ho) {S : Sq} (wS : S.wf) {l t w h : Int} (e : cL l ≥ cR (l + w) (2 ^ S.level) ∨ cL t ≥ cR (t + h) (2 ^ S.level)) : PB hi ho l t w h S (f S) := by
  refine ⟨D.lv S wS, D.wf S wS, fun x y x0 x1 y0 y1 => ?_⟩
  rw [D.gt S wS x y x0 x1 y0 y1, if_neg]
  unfold cL cR at e
  generalize (2 : Int) ^ S.level = s at *
  intro z
  rcases e with e | e
  · split at e <;> split at e <;> omega
  · split at e <;> split at e <;> omega
theorem PB.full {hi ho : Int → Int} {f : Sq → Sq} (D : Deed f hi) {S : Sq} (wS : S.wf) : PB hi ho 0 0 (2 ^ S.level) (2 ^ S.level) S (f S) := by
  refine ⟨D.lv S wS, D.wf S wS, fun x y x0 x1 y0 y1 => ?_⟩
  rw [D.gt S wS x y x0 x1 y0 y1, if_pos (by omega)]
/-- by the part of the box that lies in the square -/
theorem PB.clip {hi ho : Int → Int} {S R : Sq} {l t w h : Int} (p : PB hi ho (cL l) (cL t) (cR (l + w) (2 ^ S.level) - cL l) (cR (t + h) (2 ^ S.level) - cL t) S R) : PB hi ho l t w h S R := by
  refine ⟨p.lv, p.wf, fun x y x0 x1 y0 y1 => ?_⟩
  rw [p.gt x y x0 x1 y0 y1]
  unfold cL cR
  generalize (2 : Int) ^ S.level = s at *
  have e : ((if l < 0 then 0 else l) ≤ x ∧ x < (if l < 0 then 0 else l) + ((if l + w < s then l + w else s) - if l < 0 then 0 else l) ∧ (if t < 0 then 0 else t) ≤ y ∧ y < (if t < 0 then 0 else t) + ((if t + h < s then t + h else s) - if t < 0 then 0 else t)) ↔ (l ≤ x ∧ x < l + w ∧ t ≤ y ∧ y < t + h) := by
    split <;> split <;> split <;> split <;> omega
  by_cases z : l ≤ x ∧ x < l + w ∧ t ≤ y ∧ y < t + h
  · rw [if_pos z, if_pos (e.mpr z)]
  · rw [if_neg z, if_neg (fun q => z (e.mp q))]
theorem PB.node {hi ho : Int → Int} {a b c d A B C D : Sq} {l t w h : Int} (wS : (Sq.node a b c d).wf) (pa : PB hi ho l t w h a A) (pb : PB hi ho (l - 2 ^ a.level) t w h b B) (pc : PB hi ho l (t - 2 ^ a.level) w h c C) (pd : PB hi ho (l - 2 ^ a.level) (t - 2 ^ a.level) w h d D) : PB hi ho l t w h (.node a b c d) (.node A B C D) := by
  obtain ⟨wa, wb, wc, wd, e1, e2, e3⟩ := id wS
  have la := pa.lv; have lb := pb.lv; have lc := pc.lv; have ld := pd.lv
  have wR : (Sq.node A B C D).wf := ⟨pa.wf, pb.wf, pc.wf, pd.wf, by omega, by omega, by omega⟩
  refine ⟨by show A.level + 1 = a.level + 1; rw [la], wR, fun x y x0 x1 y0 y1 => ?_⟩
  have el : (2 : Int) ^ (Sq.node a b c d).level = 2 * 2 ^ a.level := Sq.two_succ _
  rw [el] at x1 y1
  have g := fun {u v : Int} (u0 : 0 ≤ u) (u1 : u < 2 ^ a.level) (v0 : 0 ≤ v) (v1 : v < 2 ^ a.level) => get_nodeW wS u0 u1 v0 v1
  have gr := fun {u v : Int} (u0 : 0 ≤ u) (u1 : u < 2 ^ a.level) (v0 : 0 ≤ v) (v1 : v < 2 ^ a.level) => get_nodeW (x := u) (y := v) wR u0 (by rw [la]; exact u1) v0 (by rw [la]; exact v1)
  rw [la] at gr
  have ga := pa.gt; have gb := pb.gt; have gc := pc.gt; have gd := pd.gt
  rw [e1] at gb; rw [e2] at gc; rw [e3] at gd
  generalize (2 : Int) ^ a.level = s at *
  by_cases cx : x < s <;> by_cases cy : y < s
  · rw [(gr x0 cx y0 cy).1, (g x0 cx y0 cy).1, ga x y x0 cx y0 cy]
  · have p := (gr x0 cx (show 0 ≤ y - s by omega) (by omega)).2.2.1
    have q := (g x0 cx (show 0 ≤ y - s by omega) (by omega)).2.2.1
    rw [Int.sub_add_cancel] at p q
    rw [p, q, gc x (y - s) x0 cx (by omega) (by omega)]
    by_cases z : l ≤ x ∧ x < l + w ∧ t ≤ y ∧ y < t + h
    · rw [if_pos z, if_pos (by omega)]
    · rw [if_neg z, if_neg (by omega)]
  · have p := (gr (show 0 ≤ x - s by omega) (by omega) y0 cy).2.1
    have q := (g (show 0 ≤ x - s by omega) (by omega) y0 cy).2.1
    rw [Int.sub_add_cancel] at p q
    rw [p, q, gb (x - s) y (by omega) (by omega) y0 cy]
    by_cases z : l ≤ x ∧ x < l + w ∧ t ≤ y ∧ y < t + h
    · rw [if_pos z, if_pos (by omega)]
    · rw [if_neg z, if_neg (by omega)]
  · have p := (gr (show 0 ≤ x - s by omega) (by omega) (show 0 ≤ y - s by omega) (by omega)).2.2.2
    have q := (g (show 0 ≤ x - s by omega) (by omega) (show 0 ≤ y - s by omega) (by omega)).2.2.2
    rw [Int.sub_add_cancel, Int.sub_add_cancel] at p q
    rw [p, q, gd (x - s) (y - s) (by omega) (by omega) (by omega) (by omega)]
    by_cases z : l ≤ x ∧ x < l + w ∧ t ≤ y ∧ y < t + h
    · rw [if_pos z, if_pos (by omega)]
    · rw [if_neg z, if_neg (by omega)]
/-! #### the parts that come by -/
/-- a cut of a side of that length -/
def Cut (l r s u v : Int) : Prop := (u = 0 ∨ u = l % s) ∧ (v = s ∨ v = r % s)
theorem emod_two (l h : Int) (hp : 0 < h) : l % (2 * h) = l % h ∨ l % (2 * h) = l % h + h := by
  have e1 := Int.emod_nonneg l (show h ≠ 0 by omega)
  have e2 := Int.emod_lt_of_pos l hp
  have e3 := Int.emod_nonneg l (show 2 * h ≠ 0 by omega)
  have e4 := Int.emod_lt_of_pos l (show 0 < 2 * h by omega)
  have e5 : l % (2 * h) % h = l % h := Int.emod_emod_of_dvd l ⟨2, by omega⟩
  by_cases c : l % (2 * h) < h
  · left; rw [← e5, Int.emod_eq_of_lt e3 c]
  · right
    have : (l % (2 * h) - h) % h = l % h := by rw [Int.sub_emod_right, e5]
    rw [Int.emod_eq_of_lt (by omega) (by omega)] at this
    omega
theorem Cut.half {l r h u v k : Int} (c : Cut l r (2 * h) u v) (hp : 0 < h) (hk : k = 0 ∨ k = 1) (n : cL (u - k * h) < cR (v - k * h) h) : Cut l r h (cL (u - k * h)) (cR (v - k * h) h) := by
  obtain ⟨c1, c2⟩ := c
  have a := emod_two l h hp; have b := emod_two r h hp
  have a0 := Int.emod_nonneg l (show h ≠ 0 by omega); have b0 := Int.emod_nonneg r (show h ≠ 0 by omega)
  have a1 := Int.emod_lt_of_pos l hp; have b1 := Int.emod_lt_of_pos r hp
  unfold Cut cL cR at *
  rcases hk with rfl | rfl
  · rw [Int.zero_mul, Int.sub_zero, Int.sub_zero] at *
    split at n <;> split at n <;> (constructor <;> (split <;> omega))
  · rw [Int.one_mul] at *
    split at n <;> split at n <;> (constructor <;> (split <;> omega))
def cuts (l r s : Int) : List (Int × Int) := [(0, s), (0, r % s), (l % s, s), (l % s, r % s)]
theorem mem_cuts {l r s u v : Int} (c : Cut l r s u v) : (u, v) ∈ cuts l r s := by
  obtain ⟨c1, c2⟩ := c
  unfold cuts
  rcases c1 with rfl | rfl <;> rcases c2 with rfl | rfl <;> simp
def parts (l r t b : Int) (s : Int) : List (List Int) := (cuts l r s).flatMap fun x => (cuts t b s).map fun y => [x.1, y.1, x.2 - x.1, y.2 - y.1]
theorem mem_parts {l r t b s u v u' v' : Int} (c : Cut l r s u v) (c' : Cut t b s u' v') : [u, u', v - u, v' - u'] ∈ parts l r t b s :=
  List.mem_flatMap.mpr ⟨(u, v), mem_cuts c, List.mem_map.mpr ⟨(u', v'), mem_cuts c', rfl⟩⟩
theorem parts_len (l r t b s : Int) : (parts l r t b s).length = 16 := rfl
/-- squares, with the quarters of each -/
def Clo (C : List Sq) : Prop := ∀ a b c d, Sq.node a b c d ∈ C → a ∈ C ∧ b ∈ C ∧ c ∈ C ∧ d ∈ C
theorem nz_cv : ∀ {S : Sq}, S.wf → ∀ T ∈ nz S, T.wf ∧ ∀ U ∈ cv T, U ∈ cv S
  | .leaf s, w, T, h => by
    have h' : T ∈ (if s = 0 then [] else [Sq.leaf s]) := h
    split at h'
    · cases h'
    · rw [List.mem_singleton] at h'; rw [h']; exact ⟨w, fun U hU => hU⟩
  | .node a b c d, w, T, h => by
    have h' : T ∈ (if (Sq.node a b c d).lives = 0 then [] else Sq.node a b c d :: (nz a ++ nz b ++ nz c ++ nz d)) := h
    obtain ⟨wa, wb, wc, wd, _⟩ := id w
    split at h'
    · cases h'
    · rcases List.mem_cons.mp h' with h' | h'
      · rw [h']; exact ⟨w, fun U hU => hU⟩
      · simp only [List.mem_append] at h'
        rcases h' with ((h' | h') | h') | h'
        · have z := nz_cv wa T h'; exact ⟨z.1, fun U hU => cv_child w (.inl rfl) U (z.2 U hU)⟩
        · have z := nz_cv wb T h'; exact ⟨z.1, fun U hU => cv_child w (.inr (.inl rfl)) U (z.2 U hU)⟩
        · have z := nz_cv wc T h'; exact ⟨z.1, fun U hU => cv_child w (.inr (.inr (.inl rfl))) U (z.2 U hU)⟩
        · have z := nz_cv wd T h'; exact ⟨z.1, fun U hU => cv_child w (.inr (.inr (.inr rfl))) U (z.2 U hU)⟩
theorem lives_even0 : ∀ l : Nat, (Sq.even l 0).lives = 0
  | 0 => rfl
  | l + 1 => by
    have h := lives_even0 l
    show (Sq.even l 0).lives + (Sq.even l 0).lives + (Sq.even l 0).lives + (Sq.even l 0).lives = 0
    omega
theorem cv_cv {S : Sq} (w : S.wf) (T : Sq) (h : T ∈ cv S) : T.wf ∧ ∀ U ∈ cv T, U ∈ cv S := by
  rcases List.mem_append.mp h with h | h
  · exact nz_cv w T h
  · obtain ⟨l, hl, rfl⟩ := List.mem_map.mp h
    have hl' := List.mem_range.mp hl
    refine ⟨Sq.wf_even (by decide) (by decide) _, fun U hU => ?_⟩
    rcases List.mem_append.mp hU with hU | hU
    · rw [nz_none (lives_even0 l)] at hU; cases hU
    · obtain ⟨j, hj, e⟩ := List.mem_map.mp hU
      have hj' := List.mem_range.mp hj
      rw [Sq.level_even] at hj'
      exact List.mem_append_right _ (List.mem_map.mpr ⟨j, List.mem_range.mpr (by omega), e⟩)
theorem clo_cv {S : Sq} (w : S.wf) : Clo (cv S) := fun a b c d h => by
  obtain ⟨wN, sub⟩ := cv_cv w _ h
  obtain ⟨wa, wb, wc, wd, _⟩ := id wN
  exact ⟨sub _ (cv_child wN (.inl rfl) _ (cv_self wa)), sub _ (cv_child wN (.inr (.inl rfl)) _ (cv_self wb)), sub _ (cv_child wN (.inr (.inr (.inl rfl))) _ (cv_self wc)), sub _ (cv_child wN (.inr (.inr (.inr rfl))) _ (cv_self wd))⟩
/-- squares with parts of boxes, each with those of its quarters -/
def CloP (L : List (Sq × List Int)) : Prop := ∀ a b c d u u' w h, (Sq.node a b c d, [u, u', w, h]) ∈ L → ∀ (k : Nat) T, [a, b, c, d][k]? = some T →
  cL (u - (k : Int) % 2 * 2 ^ a.level) < cR (u - (k : Int) % 2 * 2 ^ a.level + w) (2 ^ a.level) → cL (u' - (k : Int) / 2 * 2 ^ a.level) < cR (u' - (k : Int) / 2 * 2 ^ a.level + h) (2 ^ a.level) →
  (T, [cL (u - (k : Int) % 2 * 2 ^ a.level), cL (u' - (k : Int) / 2 * 2 ^ a.level), cR (u - (k : Int) % 2 * 2 ^ a.level + w) (2 ^ a.level) - cL (u - (k : Int) % 2 * 2 ^ a.level), cR (u' - (k : Int) / 2 * 2 ^ a.level + h) (2 ^ a.level) - cL (u' - (k : Int) / 2 * 2 ^ a.level)]) ∈ L
/-- all squares of a list with the parts that a box may have -/
def allP (C : List Sq) (l r t b : Int) : List (Sq × List Int) := C.flatMap fun S => (parts l r t b (2 ^ S.level)).map fun p => (S, p)
theorem allP_len (C : List Sq) (l r t b : Int) : (allP C l r t b).length = 16 * C.length := by
  unfold allP
  rw [List.length_flatMap]
  induction C with
  | nil => rfl
  | cons S D ih =>
    rw [List.map_cons, List.sum_cons, ih, List.length_map, parts_len, List.length_cons]
    omega
theorem mem_allP {C : List Sq} {l r t b : Int} {S : Sq} {p : List Int} : (S, p) ∈ allP C l r t b ↔ S ∈ C ∧ p ∈ parts l r t b (2 ^ S.level) := by
  unfold allP
  rw [List.mem_flatMap]
  constructor
  · rintro ⟨S', h1, h2⟩
    obtain ⟨p', h3, e⟩ := List.mem_map.mp h2
    cases e
    exact ⟨h1, h3⟩
  · rintro ⟨h1, h2⟩
    exact ⟨S, h1, List.mem_map.mpr ⟨p, h2, rfl⟩⟩
theorem of_parts {l r t b s u u' w h : Int} (m : [u, u', w, h] ∈ parts l r t b s) : Cut l r s u (u + w) ∧ Cut t b s u' (u' + h) := by
  obtain ⟨x, hx, hy0⟩ := List.mem_flatMap.mp m
  obtain ⟨y, hy, e⟩ := List.mem_map.mp hy0
  clear hy0 m
  simp only [List.cons.injEq, and_true] at e
  obtain ⟨rfl, rfl, rfl, rfl⟩ := e
  have e1 : x.1 + (x.2 - x.1) = x.2 := by omega
  have e2 : y.1 + (y.2 - y.1) = y.2 := by omega
  rw [e1, e2]
  have key : ∀ {l r s : Int} {x : Int × Int}, x ∈ cuts l r s → Cut l r s x.1 x.2 := fun {l r s x} hx => by
    unfold cuts at hx
    simp only [List.mem_cons, List.not_mem_nil, or_false] at hx
    unfold Cut
    rcases hx with h | h | h | h <;> rw [h] <;> simp
  exact ⟨key hx, key hy⟩
theorem cloP_all {C : List Sq} (hC : Clo C) (hw : ∀ S ∈ C, S.wf) (l r t b : Int) : CloP (allP C l r t b) := by
  intro A B C' D u u' w h m k T hk n1 n2
  obtain ⟨h1, h2⟩ := mem_allP.mp m
  obtain ⟨c1, c2⟩ := of_parts h2
  obtain ⟨_, _, _, _, e1, e2, e3⟩ := hw _ h1
  obtain ⟨ca, cb, cc, cd⟩ := hC _ _ _ _ h1
  have hk4 : k < 4 := (List.getElem?_eq_some_iff.mp hk).1
  have lT : T.level = A.level ∧ T ∈ C := by
    match k, hk4, hk with
    | 0, _, hk => cases hk; exact ⟨rfl, ca⟩
    | 1, _, hk => cases hk; exact ⟨e1, cb⟩
    | 2, _, hk => cases hk; exact ⟨e2, cc⟩
    | 3, _, hk => cases hk; exact ⟨e3, cd⟩
  have hp := Sq.two_pos A.level
  have hp2 : (2 : Int) ^ (Sq.node A B C' D).level = 2 * 2 ^ A.level := Sq.two_succ _
  rw [hp2] at c1 c2
  have kx : ((k : Nat) : Int) % 2 = 0 ∨ ((k : Nat) : Int) % 2 = 1 := by omega
  have ky : ((k : Nat) : Int) / 2 = 0 ∨ ((k : Nat) : Int) / 2 = 1 := by omega
  have w1 : u - (k : Int) % 2 * 2 ^ A.level + w = u + w - (k : Int) % 2 * 2 ^ A.level := by omega
  have w2 : u' - (k : Int) / 2 * 2 ^ A.level + h = u' + h - (k : Int) / 2 * 2 ^ A.level := by omega
  rw [w1] at n1 ⊢
  rw [w2] at n2 ⊢
  refine mem_allP.mpr ⟨lT.2, ?_⟩
  rw [lT.1]
  exact mem_parts (c1.half hp kx n1) (c2.half hp ky n2)
/-! #### what is known while a box is painted -/
structure KB (hi ho : Int → Int) (L : List (Sq × List Int)) (q : List Sq) (kvs : List (NestedKey × V)) : Prop where
  nd : (kvs.map Prod.fst).Nodup
  ok : ∀ e ∈ kvs, ∃ (n : Nat) (S R : Sq) (m : Nat) (u u' w h : Int), e = (nk n [u, u', w, h], .int (m : Int)) ∧ q[n]? = some S ∧ (S, [u, u', w, h]) ∈ L ∧ q[m]? = some R ∧ PB hi ho u u' w h S R
theorem KB.nil {hi ho : Int → Int} {L : List (Sq × List Int)} {q : List Sq} : KB hi ho L q [] := ⟨by simp, fun e h => by cases h⟩
theorem KB.pre {hi ho : Int → Int} {L : List (Sq × List Int)} {q q' : List Sq} {kvs : List (NestedKey × V)} (k : KB hi ho L q kvs) (p : q <+: q') : KB hi ho L q' kvs :=
  ⟨k.nd, fun e he => let ⟨n, S, R, m, u, u', w, h, a1, a2, a3, a5, a6⟩ := k.ok e he; ⟨n, S, R, m, u, u', w, h, a1, pre_get p a2, a3, pre_get p a5, a6⟩⟩
theorem KB.at {hi ho : Int → Int} {L : List (Sq × List Int)} {q : List Sq} {kvs : List (NestedKey × V)} (k : KB hi ho L q kvs) {n : Nat} {S : Sq} {u u' w h : Int} {v : V} (hn : q[n]? = some S) (e : valV kvs (nk n [u, u', w, h]) = some v) : ∃ (m : Nat) (R : Sq), v = .int (m : Int) ∧ q[m]? = some R ∧ PB hi ho u u' w h S R := by
  obtain ⟨n', S', R, m, x, x', y, z, a1, a2, a3, a5, a6⟩ := k.ok _ (valV_mem e)
  obtain ⟨b1, rfl⟩ := Prod.mk.inj a1
  obtain ⟨e1, e2⟩ := nk_inj b1
  obtain rfl : n = n' := by omega
  rw [hn] at a2
  cases a2
  simp only [List.cons.injEq, and_true] at e2
  obtain ⟨rfl, rfl, rfl, rfl⟩ := e2
  exact ⟨m, R, rfl, a5, a6⟩
theorem KB.put {hi ho : Int → Int} {L : List (Sq × List Int)} {q : List Sq} {kvs : List (NestedKey × V)} (k : KB hi ho L q kvs) {n m : Nat} {S R : Sq} {u u' w h : Int} (hn : q[n]? = some S) (hS : (S, [u, u', w, h]) ∈ L) (hm : q[m]? = some R) (hR : PB hi ho u u' w h S R) (e : valV kvs (nk n [u, u', w, h]) = none) :
    KB hi ho L q (putK kvs (nk n [u, u', w, h]) (.int (m : Int))) ∧ putK kvs (nk n [u, u', w, h]) (.int (m : Int)) = kvs ++ [(nk n [u, u', w, h], .int (m : Int))] := by
  have ep : putK kvs (nk n [u, u', w, h]) (.int (m : Int)) = kvs ++ [(nk n [u, u', w, h], .int (m : Int))] := putK_new _ e
  refine ⟨?_, ep⟩
  rw [ep]
  refine ⟨?_, fun x hx => ?_⟩
  · rw [List.map_append, List.nodup_append]
    refine ⟨k.nd, by simp, fun a ha b hb z => ?_⟩
    simp only [List.map_cons, List.map_nil, List.mem_singleton] at hb
    rw [z, hb] at ha
    exact valV_nonek e ha
  · rcases List.mem_append.mp hx with hx | hx
    · exact k.ok x hx
    · rw [List.mem_singleton] at hx
      exact ⟨n, S, R, m, u, u', w, h, hx, hn, hS, hm, hR⟩
theorem KB.len {hi ho : Int → Int} {L : List (Sq × List Int)} {q : List Sq} {kvs : List (NestedKey × V)} (k : KB hi ho L q kvs) (hq : q.Nodup) : kvs.length ≤ L.length := by
  have := nodup_sub_len (kvs.map Prod.fst) (L.map fun x => nk (q.idxOf x.1 : Nat) x.2) k.nd fun x hx => by
    obtain ⟨e, he, rfl⟩ := List.mem_map.mp hx
    obtain ⟨n, S, R, m, u, u', w, h, a1, a2, a3, _⟩ := k.ok e he
    refine List.mem_map.mpr ⟨_, a3, ?_⟩
    obtain ⟨hn, en⟩ := List.getElem?_eq_some_iff.mp a2
    have : q.idxOf S = n := by rw [← en]; exact hq.idxOf_getElem n hn
    show nk (q.idxOf S : Nat) [u, u', w, h] = e.1
    rw [a1, this]
  rw [List.length_map, List.length_map] at this
  exact this
section
variable {P : Program} {w : World} {K : PySem.W.Frag} {mg : Str → Option Value} {base : Heap}
def BoxT (H : Hp) (p : Addr) (l t w h : Int) : Prop := H p = some (.tup [.int l, .int t, .int w, .int h])
/-- tuples of numbers, compared -/
theorem rd_eqT4 {H : Hp} {Q : VK} {p p' : Addr} {xs ys : List Int} (h : H p = some (.tup (xs.map V.int))) (h' : H p' = some (.tup (ys.map V.int))) (q : Q (.bl (decide (xs = ys))) H) : rEqD K (.ref p) (.ref p') H Q := by
  have sh : ∀ zs : List Int, SeqAt.shaped (.tuple (zs.map PyData.int)) = true := fun zs => by
    have h1 := depth_ints zs
    have h2 := lay_ints zs
    have h3 : PyData.depth (.tuple (zs.map PyData.int)) ≤ 64 := by
      simp only [PyData.depth]
      omega
    unfold SeqAt.shaped
    rw [decide_eq_true h3, Bool.and_true]
    simp only [PyData.canLay0, h2]
  refine ⟨_, _, .tup (SqT.of h) dp_ints, .tup (SqT.of h') dp_ints, sh xs, sh ys, ?_⟩
  have e : PyData.eqv (.tuple (xs.map PyData.int)) (.tuple (ys.map PyData.int)) = decide (xs = ys) := by
    simp only [PyData.eqv, eqvAll_ints]
  rw [e]; exact q
def sp_clipped : Sp := fun vs H Q _ => ∃ (p : Addr) (l t w h s : Int), vs = [.ref p, .int s] ∧ BoxT H p l t w h ∧ (cL l ≥ cR (l + w) s ∨ cL t ≥ cR (t + h) s → Q .non H) ∧
  (¬ (cL l ≥ cR (l + w) s ∨ cL t ≥ cR (t + h) s) → ∀ p', H p' = none → Q (.ref p') (upd H p' (.tup [.int (cL l), .int (cL t), .int (cR (l + w) s - cL l), .int (cR (t + h) s - cL t)])))
theorem mp_clipped : MonP sp_clipped := fun vs H Q Q' E h ⟨p, l, t, w, h', s, x1, x2, x3, x4⟩ => ⟨p, l, t, w, h', s, x1, x2, fun z => h _ _ (x3 z), fun z p' hp => h _ _ (x4 z p' hp)⟩
set_option maxHeartbeats 8000000 in
theorem ok_clipped (T : Env fa fn K mg) : Good P w K mg base CX0 1 ("clipped", none) ["box", "size"] sp_clipped := by
  refine good_mk T 23 (d := d_clipped) (N := ["box", "size", "left", "top", "right", "low"]) (ps := ["box", "size"]) rfl rfl sc_clipped (fun _ _ _ _ _ _ us hl => match us, hl with | [_, _], _ => rfl) (fun vs H Q E h => ?_) (fun f cdv A outer σ0 H vs Q E hr h => ?_)
  · obtain ⟨p, l, t, w, h', s, rfl, _⟩ := h; rfl
  · obtain ⟨p, l, t, w, h, s, rfl, hp, k1, k2⟩ := h
    have hp' : H p = some (.tup [.int l, .int t, .int w, .int h]) := hp
    have eL : ∀ z : Int, (if 0 > z then 0 else z) = cL z := fun z => rfl
    have eR : ∀ z : Int, (if s < z then s else z) = cR z s := fun z => by unfold cR; split <;> split <;> omega
    refine ⟨_, (pss_cons (ps_set (i := 2) sc_clipped.nd rfl (Or.inl rfl) (pe_callB (call_max2 rfl) (by rfl) (T.free 9) (by decide +kernel) (pa_cons (pe_ix (ix_tupK K rfl) (pv 0) pe_int (fun _ _ => rfl)) (pa_cons pe_int pa_nil))))
      (pss_cons (ps_set (i := 3) sc_clipped.nd rfl (Or.inl rfl) (pe_callB (call_max2 rfl) (by rfl) (T.free 9) (by decide +kernel) (pa_cons (pe_ix (ix_tupK K rfl) (pv 0) pe_int (fun _ _ => rfl)) (pa_cons pe_int pa_nil))))
      (pss_cons (ps_set (i := 4) sc_clipped.nd rfl (Or.inl rfl) (pe_callB (call_min2 rfl) (by rfl) (T.free 8) (by decide +kernel) (pa_cons (pe_op op_add (pe_ix (ix_tupK K rfl) (pv 0) pe_int (fun _ _ => rfl)) (pe_ix (ix_tupK K rfl) (pv 0) pe_int (fun _ _ => rfl))) (pa_cons (pv 1) pa_nil))))
      (pss_cons (ps_set (i := 5) sc_clipped.nd rfl (Or.inl rfl) (pe_callB (call_min2 rfl) (by rfl) (T.free 8) (by decide +kernel) (pa_cons (pe_op op_add (pe_ix (ix_tupK K rfl) (pv 0) pe_int (fun _ _ => rfl)) (pe_ix (ix_tupK K rfl) (pv 0) pe_int (fun _ _ => rfl))) (pa_cons (pv 1) pa_nil))))
      (pss_cons (ps_if (PW.pt (pw_or (pt_cmpR op_ge (pv 2) (pv 4) (nomark _)) (pw_or1 (pt_cmpR op_ge (pv 3) (pv 5) (nomark _))))) (pss_one (ps_ret pe_non)) pss_nil)
      (pss_one (ps_ret (pe_tup (pa_cons (pv 2) (pa_cons (pv 3) (pa_cons (pe_op op_sub (pv 4) (pv 2)) (pa_cons (pe_op op_sub (pv 5) (pv 3)) pa_nil)))))))))))), ?_⟩
    walk_at "rd"
    rw [eL, eL, eR, eR]
    by_cases c1 : cR (l + w) s ≤ cL l
    · rw [decide_eq_true c1]
      walk_at "rd"
      exact k1 (.inl c1)
    rw [decide_eq_false c1]
    walk_at "rd"
    by_cases c2 : cR (t + h) s ≤ cL t
    · rw [decide_eq_true c2]
      walk_at "rd"
      exact k1 (.inr c2)
    rw [decide_eq_false c2]
    walk_at "rd"
    refine rd_new (hn := by show 4 ≤ sizeLine; decide) fun p' hp' => ?_
    exact k2 (fun z => z.elim c1 c2) p' hp'
def sp_corner (C : Addr) : Sp := fun vs H Q _ => ∃ (a : GA) (rows : List (Int × Addr)) (q : List Sq) (n : Nat) (S : Sq) (p : Addr) (l t w h : Int), vs = [.ref a.g, .int (n : Int), .ref p] ∧ GAt C H a rows q ∧ q[n]? = some S ∧ 1 ≤ S.level ∧ S.level ≤ 48 ∧ q.length ≤ 15500000 ∧ BoxT H p l t w h ∧
  ∀ p', H p' = none → Q (.ref p') (upd H p' (.tup [.int (l + S.half), .int (t + S.half), .int w, .int h]))
theorem mp_corner {C : Addr} : MonP (sp_corner C) := fun vs H Q Q' E h ⟨a, rows, q, n, S, p, l, t, w, h', x1, x2, x3, x4, x5, x6, x7, k⟩ => ⟨a, rows, q, n, S, p, l, t, w, h', x1, x2, x3, x4, x5, x6, x7, fun p' hp => h _ _ (k p' hp)⟩
theorem half_shl {S : Sq} (h : 1 ≤ S.level) : (2 : Int) ^ S.level / 2 = S.half := by
  have := half_two h
  omega
set_option maxHeartbeats 8000000 in
theorem ok_corner (T : Env fa fn K mg) : Good P w K mg base CX0 4 ("from_corner", none) ["grove", "field", "box"] (sp_corner (CG K)) := by
  have G_Grove_level_of := ok_level_of (P := P) (w := w) (base := base) T
  refine good_mk T 25 (d := d_from_corner) (N := ["grove", "field", "box", "half"]) (ps := ["grove", "field", "box"]) rfl rfl sc_from_corner (fun _ _ _ _ _ _ us hl => match us, hl with | [_, _, _], _ => rfl) (fun vs H Q E h => ?_) (fun f cdv A outer σ0 H vs Q E hr h => ?_)
  · obtain ⟨a, rows, q, n, S, p, l, t, w, h, rfl, _⟩ := h; rfl
  · obtain ⟨a, rows, q, n, S, p, l, t, w, h, rfl, G, hn, l1, l48, hq, hp, k⟩ := h
    have hp' : H p = some (.tup [.int l, .int t, .int w, .int h]) := hp
    refine ⟨_, (pss_cons (ps_set (i := 3) sc_from_corner.nd rfl (Or.inl rfl) (pe_op op_fdivW (pe_op op_shl pe_int (pe_mgK K rfl (pv 0) (T.cls 13) (T.meth 25) G_Grove_level_of (hr.mono (by decide)) (pa_cons (pv 1) pa_nil))) pe_int))
      (pss_one (ps_ret (pe_tup (pa_cons (pe_op op_add (pe_ix (ix_tupK K rfl) (pv 2) pe_int (fun _ _ => rfl)) (pv 3)) (pa_cons (pe_op op_add (pe_ix (ix_tupK K rfl) (pv 2) pe_int (fun _ _ => rfl)) (pv 3)) (pa_cons (pe_ix (ix_tupK K rfl) (pv 2) pe_int (fun _ _ => rfl)) (pa_cons (pe_ix (ix_tupK K rfl) (pv 2) pe_int (fun _ _ => rfl)) pa_nil)))))))), ?_⟩
    walk_at "rd"
    refine rd_methR G.ob (by rfl) ?_
    walk_at "rd"
    refine ⟨a, rows, q, n, S, rfl, G, hn, by omega, ?_⟩
    walk_at "rd"
    refine rd_I (by refine ⟨by omega, by omega, by decide⟩) ?_
    rw [shl_ok]
    walk_at "rd"
    rw [half_shl l1]
    refine rd_new (hn := by show 4 ≤ sizeLine; decide) fun p' hp2 => ?_
    exact k p' hp2
def sp_lies : Sp := fun vs H Q _ => ∃ (p : Addr) (l t w h s : Int), vs = [.ref p, .int s] ∧ BoxT H p l t w h ∧ Q (.bl (decide (-s ≤ l ∧ l + w ≤ s ∧ -s ≤ t ∧ t + h ≤ s))) H
theorem mp_lies : MonP sp_lies := fun vs H Q Q' E h ⟨p, l, t, w, h', s, x1, x2, x3⟩ => ⟨p, l, t, w, h', s, x1, x2, h _ _ x3⟩
set_option maxHeartbeats 8000000 in
theorem ok_lies (T : Env fa fn K mg) : Good P w K mg base CX0 1 ("lies_within", none) ["box", "half"] sp_lies := by
  refine good_mk T 26 (d := d_lies_within) (N := ["box", "half"]) (ps := ["box", "half"]) rfl rfl sc_lies_within (fun _ _ _ _ _ _ us hl => match us, hl with | [_, _], _ => rfl) (fun vs H Q E h => ?_) (fun f cdv A outer σ0 H vs Q E hr h => ?_)
  · obtain ⟨p, l, t, w, h', s, rfl, _⟩ := h; rfl
  · obtain ⟨p, l, t, w, h, s, rfl, hp, k⟩ := h
    have hp' : H p = some (.tup [.int l, .int t, .int w, .int h]) := hp
    refine ⟨_, (pss_cons (ps_if (PW.pt (pw_or (pt_cmpR op_lt (pe_ix (ix_tupK K rfl) (pv 0) pe_int (fun _ _ => rfl)) (pe_un un_neg (pv 1)) (nomark _)) (pw_or1 (pt_cmpR op_gt (pe_op op_add (pe_ix (ix_tupK K rfl) (pv 0) pe_int (fun _ _ => rfl)) (pe_ix (ix_tupK K rfl) (pv 0) pe_int (fun _ _ => rfl))) (pv 1) (nomark _))))) (pss_one (ps_ret pe_bl)) pss_nil)
      (pss_one (ps_ret (pe_and (pe_cmpR op_le (pe_un un_neg (pv 1)) (pe_ix (ix_tupK K rfl) (pv 0) pe_int (fun _ _ => rfl)) (nomark _)) (pe_one (pe_cmpR op_le (pe_op op_add (pe_ix (ix_tupK K rfl) (pv 0) pe_int (fun _ _ => rfl)) (pe_ix (ix_tupK K rfl) (pv 0) pe_int (fun _ _ => rfl))) (pv 1) (nomark _))))))), ?_⟩
    walk_at "rd"
    by_cases c1 : l < -s
    · rw [decide_eq_true c1]
      walk_at "rd"
      rw [decide_eq_false (by omega)] at k
      exact k
    rw [decide_eq_false c1]
    walk_at "rd"
    by_cases c2 : l + w > s
    · rw [decide_eq_true (show s < l + w from c2)]
      walk_at "rd"
      rw [decide_eq_false (by omega)] at k
      exact k
    rw [decide_eq_false (show ¬ s < l + w from c2)]
    walk_at "rd"
    by_cases c3 : -s ≤ t
    · rw [decide_eq_true c3]
      walk_at "rd"
      have e : decide (t + h ≤ s) = decide (-s ≤ l ∧ l + w ≤ s ∧ -s ≤ t ∧ t + h ≤ s) := by
        by_cases c4 : t + h ≤ s
        · rw [decide_eq_true c4, decide_eq_true (by omega)]
        · rw [decide_eq_false c4, decide_eq_false (by omega)]
      rw [e]
      exact k
    · rw [decide_eq_false c3]
      walk_at "rd"
      rw [decide_eq_false (by omega)] at k
      exact k
def sp_refuse : Sp := fun vs H Q _ => ∃ (p : Addr) (l t w h : Int), vs = [.ref p] ∧ BoxT H p l t w h ∧ 0 ≤ w ∧ 0 ≤ h ∧ Q .non H
theorem mp_refuse : MonP sp_refuse := fun vs H Q Q' E h ⟨p, l, t, w, h', x1, x2, x3, x4, x5⟩ => ⟨p, l, t, w, h', x1, x2, x3, x4, h _ _ x5⟩
set_option maxHeartbeats 8000000 in
theorem ok_refuse (T : Env fa fn K mg) : Good P w K mg base CX0 1 ("refuse_box", none) ["box"] sp_refuse := by
  refine good_mk T 27 (d := d_refuse_box) (N := ["box"]) (ps := ["box"]) rfl rfl sc_refuse_box (fun _ _ _ _ _ _ us hl => match us, hl with | [_], _ => rfl) (fun vs H Q E h => ?_) (fun f cdv A outer σ0 H vs Q E hr h => ?_)
  · obtain ⟨p, l, t, w, h', rfl, _⟩ := h; rfl
  · obtain ⟨p, l, t, w, h, rfl, hp, w0, h0, k⟩ := h
    have hp' : H p = some (.tup [.int l, .int t, .int w, .int h]) := hp
    refine ⟨_, (pss_one (ps_if (PW.pt (pw_or (pt_cmpR op_lt (pe_ix (ix_tupK K rfl) (pv 0) pe_int (fun _ _ => rfl)) pe_int (nomark _)) (pw_or1 (pt_cmpR op_lt (pe_ix (ix_tupK K rfl) (pv 0) pe_int (fun _ _ => rfl)) pe_int (nomark _))))) pss_never pss_nil)), ?_⟩
    walk_at "rd"
    rw [decide_eq_false (by omega)]
    walk_at "rd"
    rw [decide_eq_false (by omega)]
    walk_at "rd"
    exact k
theorem snoc_get3 {α : Type} {l : List α} {x y : α} {j : Nat} (h : (l ++ [x])[j]? = some y) : l[j]? = some y ∨ (j = l.length ∧ y = x) := by
  rcases Nat.lt_or_ge j l.length with hj | hj
  · rw [List.getElem?_append_left hj] at h
    exact .inl h
  · obtain rfl : j = l.length := by
      have := (List.getElem?_eq_some_iff.mp h).1
      rw [List.length_append] at this
      simp at this
      omega
    rw [List.getElem?_append_right (Nat.le_refl _), Nat.sub_self] at h
    cases h
    exact .inr ⟨rfl, rfl⟩
/-! #### painted -/
/-- a step of a grove beside a dict of one's own -/
structure DStep (C d : Addr) (H : Hp) (a : GA) (rows : List (Int × Addr)) (q : List Sq) (H' : Hp) (rows' : List (Int × Addr)) (q' : List Sq) : Prop where
  gat : GAt C H' a rows' q'
  pre : q <+: q'
  fr : Fr (d :: a.muts rows) H H'
  new : ∀ b ∈ a.muts rows', b ∈ a.muts rows ∨ H b = none
  dd : H d ≠ none → H' d ≠ none
theorem DStep.of {C d : Addr} {H H' : Hp} {a : GA} {rows rows' : List (Int × Addr)} {q q' : List Sq} (x : GStep C H a rows q H' rows' q') (hd : d ∉ a.muts rows) : DStep C d H a rows q H' rows' q' :=
  ⟨x.gat, x.pre, x.fr.mono fun b h => List.mem_cons_of_mem _ h, x.new, fun h => by
    cases e : H d with
    | none => exact absurd e h
    | some o => rw [x.fr d o e hd]; simp⟩
theorem DStep.out {C d : Addr} {H H1 : Hp} {a : GA} {rows r1 : List (Int × Addr)} {q q1 : List Sq} (x : DStep C d H a rows q H1 r1 q1) (hd : H d ≠ none) (hd' : d ∉ a.muts rows) : d ∉ a.muts r1 := fun z => by
  rcases x.new d z with z | z
  · exact hd' z
  · exact hd z
theorem DStep.trans {C d : Addr} {H H1 H2 : Hp} {a : GA} {rows r1 r2 : List (Int × Addr)} {q q1 q2 : List Sq} (x : DStep C d H a rows q H1 r1 q1) (y : DStep C d H1 a r1 q1 H2 r2 q2) (hd : H d ≠ none) : DStep C d H a rows q H2 r2 q2 := by
  refine ⟨y.gat, x.pre.trans y.pre, fun b o e n => ?_, fun b h => ?_, fun h => y.dd (x.dd h)⟩
  · refine y.fr b o (x.fr b o e n) fun z => ?_
    rcases List.mem_cons.mp z with z | z
    · exact n (by rw [z]; exact List.mem_cons_self)
    · rcases x.new b z with z | z
      · exact n (List.mem_cons_of_mem _ z)
      · rw [e] at z; cases z
  · rcases y.new b h with z | z
    · exact x.new b z
    · by_cases hb : b ∈ a.muts rows
      · exact .inl hb
      · right
        cases q : H b with
        | none => rfl
        | some o =>
          by_cases hbd : b = d
          · subst hbd
            exact absurd z (x.dd hd)
          · rw [x.fr b o q (fun z' => by
              rcases List.mem_cons.mp z' with z' | z'
              · exact hbd z'
              · exact hb z')] at z
            cases z
theorem DStep.same {C d : Addr} {H H1 H2 : Hp} {a : GA} {rows r1 : List (Int × Addr)} {q q1 : List Sq} (x : DStep C d H a rows q H1 r1 q1) (s : Same H1 H2) : DStep C d H a rows q H2 r1 q1 :=
  ⟨x.gat.same s, x.pre, x.fr.trans (fr_of s), x.new, fun h => by
    have h1 := x.dd h
    cases e : H1 d with
    | none => exact absurd e h1
    | some o => rw [s _ _ e]; simp⟩
theorem GAt.ext_out {C : Addr} {H : Hp} {a : GA} {rows : List (Int × Addr)} {q : List Sq} (G : GAt C H a rows q) {b : Addr} {φ : Heap → Prop} (h : H b = some (.ext φ)) : b ∉ a.muts rows := by
  obtain ⟨tups, mk, spt, D⟩ := G.da
  intro z
  unfold GA.muts GA.m5 at z
  simp only [List.cons_append, List.nil_append, List.mem_cons, List.mem_map] at z
  rcases z with rfl | rfl | rfl | rfl | rfl | rfl | ⟨sa, hm, rfl⟩
  · rw [D.hn] at h; cases h
  · rw [D.hm] at h; cases h
  · rw [D.hl] at h; cases h
  · rw [D.hv] at h; cases h
  · rw [D.hs] at h; cases h
  · rw [G.pl] at h; cases h
  · obtain ⟨ns, e, _⟩ := G.ro sa.1 sa.2 hm
    rw [e] at h; cases h
theorem rd_nget {P : Program} {w : World} {td ty : TE} {σ : L2.St} {H : Hp} {Q : VK} (h : td σ H fun x H1 => ty σ H1 fun y H2 => ∃ d b kvs k v, x = .ref d ∧ y = .ref b ∧ ND P w H2 d kvs ∧ KAtN H2 b k ∧ valV kvs k = some v ∧ Q v H2) : tNGet P w td ty σ H Q := h
theorem rd_nnotin {P : Program} {w : World} {td ty : TE} {σ : L2.St} {H : Hp} {Q : VK} (h : ty σ H fun y H1 => td σ H1 fun x H2 => ∃ d b kvs k, x = .ref d ∧ y = .ref b ∧ ND P w H2 d kvs ∧ KAtN H2 b k ∧ Q (.bl (!(valV kvs k).isSome)) H2) : tNNotIn P w ty td σ H Q := h
theorem rd_nput {P : Program} {w : World} {td ty tv : TE} {D : L2.Ends} {σ : L2.St} {H : Hp} (h : tv σ H fun v H1 => td σ H1 fun x H2 => ty σ H2 fun y H3 => ∃ d b kvs k, x = .ref d ∧ y = .ref b ∧ ND P w H3 d kvs ∧ KAtN H3 b k ∧ kvs.length < sizeLine ∧ ∀ H4, ND P w H4 d (putK kvs k v) → (∀ c, c ≠ d → H4 c = H3 c) → D.nx σ H4) : sNPut P w td ty tv D σ H := h
/-- a made function stands, beside the dict d -/
structure FK (H : Hp) (d f : Addr) (F : NF) : Prop where
  hf : H f = some (FnO f F)
  hc : H F.c = some (CodeO F.c F.qual)
  nf : f ≠ d
  nc : F.c ≠ d
theorem FK.step {C d : Addr} {H H1 : Hp} {a : GA} {rows r1 : List (Int × Addr)} {q q1 : List Sq} {f : Addr} {F : NF} (x : FK H d f F) (G : GAt C H a rows q) (s : DStep C d H a rows q H1 r1 q1) : FK H1 d f F :=
  ⟨s.fr _ _ x.hf fun z => by
    rcases List.mem_cons.mp z with z | z
    · exact x.nf z
    · exact G.ext_out x.hf z, s.fr _ _ x.hc fun z => by
    rcases List.mem_cons.mp z with z | z
    · exact x.nc z
    · exact G.ext_out x.hc z, x.nf, x.nc⟩
theorem FK.same {H H1 : Hp} {d f : Addr} {F : NF} (x : FK H d f F) (s : Same H H1) : FK H1 d f F := ⟨s _ _ x.hf, s _ _ x.hc, x.nf, x.nc⟩
def spD (C : Addr) (a : GA) (g : Sq → Sq) : Sp := fun vs H Q _ => ∃ (rows : List (Int × Addr)) (q : List Sq) (n : Nat) (S : Sq), vs = [.int (n : Int)] ∧ GAt C H a rows q ∧ q[n]? = some S ∧ S.level ≤ 48 ∧ q.length + 200 < 15500000 ∧
  ∀ H' rows' q' (m : Nat), GStep C H a rows q H' rows' q' → q'.length ≤ q.length + 50 → q'[m]? = some (g S) → Q (.int (m : Int)) H'
def sp_painted (P : Program) (w : World) (K : PySem.W.Frag) (L : Nat) (a : GA) (hi ho : Int → Int) (f1 : Addr) (F1 : NF) (f2 : Addr) (F2 : NF) : Sp := fun vs H Q _ => ∃ (rows : List (Int × Addr)) (q : List Sq) (n : Nat) (S : Sq) (pb : Addr) (l t w' h : Int) (pk : Addr) (kvs : List (NestedKey × V)) (L' : List (Sq × List Int)),
  vs = [.ref a.g, .int (n : Int), .ref pb, .ref f1, .ref f2, .ref pk] ∧ GAt (CG K) H a rows q ∧ q[n]? = some S ∧ S.level ≤ L ∧ S.level ≤ 47 ∧ BoxT H pb l t w' h ∧ FK H pk f1 F1 ∧ FK H pk f2 F2 ∧ ND P w H pk kvs ∧ pk ∉ a.muts rows ∧ KB hi ho L' q kvs ∧ CloP L' ∧ L'.length ≤ 900000 ∧
  (cL l < cR (l + w') (2 ^ S.level) → cL t < cR (t + h) (2 ^ S.level) → (S, [cL l, cL t, cR (l + w') (2 ^ S.level) - cL l, cR (t + h) (2 ^ S.level) - cL t]) ∈ L') ∧
  q.length + 210 * L'.length + 250 * (S.level + 1) + 200 < 15000000 + 210 * kvs.length ∧
  ∀ H' rows' q' (m : Nat) R kvs', DStep (CG K) pk H a rows q H' rows' q' → ND P w H' pk kvs' → KB hi ho L' q' kvs' → q'.length + 210 * kvs.length ≤ q.length + 210 * kvs'.length + 50 → q'[m]? = some R → PB hi ho l t w' h S R →
    (∀ (n' : Nat) T (p : List Int), q[n']? = some T → S.level < T.level → valV kvs' (nk n' p) = valV kvs (nk n' p)) → Q (.int (m : Int)) H'
theorem no_painted (T : Env fa fn K mg) {f1 : Addr} {F1 : NF} {f2 : Addr} {F2 : NF} {sp1 sp2 : Sp} (V_inside : FnV P w K mg base CX0 9 f1 F1 sp1) (V_outside : FnV P w K mg base CX0 9 f2 F2 sp2) : Good P w K mg base CX0 1 ("painted", none) ["grove", "square", "box", "inside", "outside", "known"] (fun _ _ _ _ => False) := by
  refine good_mk T 24 (d := d_painted) (N := ["grove", "square", "box", "inside", "outside", "known", "size", "part", "key", "half", "made", "k", "quarter", "place"]) (ps := ["grove", "square", "box", "inside", "outside", "known"]) rfl rfl sc_painted (fun _ _ _ _ _ _ us hl => match us, hl with | [_, _, _, _, _, _], _ => rfl) (fun vs H Q E h => h.elim) (fun f cdv A outer σ0 H vs Q E hr h => h.elim)
set_option maxHeartbeats 16000000 in
theorem ok_painted (T : Env fa fn K mg) {a : GA} {hi ho : Int → Int} {g1 g2 : Sq → Sq} (D1 : Deed g1 hi) (D2 : Deed g2 ho) {f1 : Addr} {F1 : NF} {f2 : Addr} {F2 : NF} (V_inside : FnV P w K mg base CX0 9 f1 F1 (spD (CG K) a g1)) (V_outside : FnV P w K mg base CX0 9 f2 F2 (spD (CG K) a g2)) :
    ∀ L : Nat, Good P w K mg base CX0 (11 + L) ("painted", none) ["grove", "square", "box", "inside", "outside", "known"] (sp_painted P w K L a hi ho f1 F1 f2 F2) := by
  have G_Grove_level_of := ok_level_of (P := P) (w := w) (base := base) T
  have G_Grove_quarters := ok_quarters (P := P) (w := w) (base := base) T
  have G_Grove_joined := ok_joined (P := P) (w := w) (base := base) T
  have G_clipped := ok_clipped (P := P) (w := w) (base := base) T
  have hsz := sizeBig
  intro L
  induction L with
  | zero =>
    have G_painted := no_painted (P := P) (w := w) (base := base) T V_inside V_outside
    refine good_mk T 24 (d := d_painted) (N := ["grove", "square", "box", "inside", "outside", "known", "size", "part", "key", "half", "made", "k", "quarter", "place"]) (ps := ["grove", "square", "box", "inside", "outside", "known"]) rfl rfl sc_painted (fun _ _ _ _ _ _ us hl => match us, hl with | [_, _, _, _, _, _], _ => rfl) (fun vs H Q E h => ?_) (fun f cdv A outer σ0 H vs Q E hr h => ?_)
    · obtain ⟨rows, q, n, S, pb, l, t, w', h', pk, kvs, L', rfl, _⟩ := h; rfl
    · obtain ⟨rows, q, n, S, pb, l, t, w', h, pk, kvs, L', rfl, G, hn, hL, l47, hb, k1, k2, nd, out, kb, cl, hC6, hcut, hq, k⟩ := h
      have hu := hu_of hr
      have wS := G.wf _ (List.mem_of_getElem? hn)
      have kl := kb.len G.qn
      refine ⟨_, (pss_cons (ps_set (i := 6) sc_painted.nd rfl (Or.inl rfl) (pe_op op_shl pe_int (pe_mgK K rfl (pv 0) (T.cls 13) (T.meth 25) G_Grove_level_of (hr.mono (by show _ ≤ 10; omega)) (pa_cons (pv 1) pa_nil))))
      (pss_cons (ps_set (i := 7) sc_painted.nd rfl (Or.inl rfl) (pe_cgK K rfl G_clipped (hr.mono (by show _ ≤ 10; omega)) (T.glo 28) (pa_cons (pv 2) (pa_cons (pv 6) pa_nil))))
      (pss_cons (ps_if (pt_cmpR op_isN (pv 7) pe_non (nomark _)) (pss_one (ps_ret (pe_cgV (i := 4) V_outside (hr.mono (by show _ ≤ 10; omega)) rfl (Or.inl rfl) (pa_cons (pv 1) pa_nil)))) pss_nil)
      (pss_cons (ps_if (pt_cmpR (op_eqDK K rfl hr.units) (pv 7) (pe_tup (pa_cons pe_int (pa_cons pe_int (pa_cons (pv 6) (pa_cons (pv 6) pa_nil))))) (nomark _)) (pss_one (ps_ret (pe_cgV (i := 3) V_inside (hr.mono (by show _ ≤ 10; omega)) rfl (Or.inl rfl) (pa_cons (pv 1) pa_nil)))) pss_nil)
      (pss_cons (ps_set (i := 8) sc_painted.nd rfl (Or.inl rfl) (pe_tup (pa_cons (pv 1) (pa_cons (pv 7) pa_nil))))
      (pss_cons (ps_if (pt_cmp (pc_nnotinK P w rfl rfl hr.units (pv 8) (pv 5))) (pss_cons (ps_set (i := 9) sc_painted.nd rfl (Or.inl rfl) (pe_op op_fdivW (pv 6) pe_int))
      (pss_cons (ps_set (i := 10) sc_painted.nd rfl (Or.inl rfl) (pe_lst pa_nil))
      (pss_cons (ps_for PassesOwn.never rfl (pi_enumT (by rfl) (T.free 10) (pa_cons (pe_mgK K rfl (pv 0) (T.cls 13) (T.meth 23) G_Grove_quarters (hr.mono (by show _ ≤ 10; omega)) (pa_cons (pv 1) pa_nil)) pa_nil)) (pg_tup rfl (pgs_cons (pg_name (i := 11) sc_painted.nd rfl (Or.inl rfl)) (pgs_cons (pg_name (i := 12) sc_painted.nd rfl (Or.inl rfl)) pgs_nil))) (pss_cons (ps_set (i := 13) sc_painted.nd rfl (Or.inl rfl) (pe_tup (pa_cons (pe_op op_sub (pe_ix (ix_tupK K rfl) (pv 7) pe_int (fun _ _ => rfl)) (pe_op op_mulW (pe_op op_mod (pv 11) pe_int) (pv 9))) (pa_cons (pe_op op_sub (pe_ix (ix_tupK K rfl) (pv 7) pe_int (fun _ _ => rfl)) (pe_op op_mulW (pe_op op_fdivW (pv 11) pe_int) (pv 9))) (pa_cons (pe_ix (ix_tupK K rfl) (pv 7) pe_int (fun _ _ => rfl)) (pa_cons (pe_ix (ix_tupK K rfl) (pv 7) pe_int (fun _ _ => rfl)) pa_nil))))))
      (pss_one (ps_expr (pe_bm PySem.F.plainAttrs_list PySem.F.slot_list_append PySem.F.type_list_append mt_append (pv 10) (pa_cons (pe_cgK K rfl G_painted (hr.mono (by show _ ≤ 10; omega)) (T.glo 29) (pa_cons (pv 0) (pa_cons (pv 12) (pa_cons (pv 13) (pa_cons (pv 3) (pa_cons (pv 4) (pa_cons (pv 5) pa_nil))))))) pa_nil))))))
      (pss_one (ps_nputK P w rfl rfl hr.units (pv 5) (pv 8) (pe_mgK K rfl (pv 0) (T.cls 13) (T.meth 30) G_Grove_joined (hr.mono (by show _ ≤ 10; omega)) (pa_cons (pe_ix (ix_listK K rfl) (pv 10) pe_int (fun _ _ => rfl)) (pa_cons (pe_ix (ix_listK K rfl) (pv 10) pe_int (fun _ _ => rfl)) (pa_cons (pe_ix (ix_listK K rfl) (pv 10) pe_int (fun _ _ => rfl)) (pa_cons (pe_ix (ix_listK K rfl) (pv 10) pe_int (fun _ _ => rfl)) pa_nil))))) rfl))))) pss_nil)
      (pss_one (ps_ret (pe_ngetK P w rfl rfl hr.units (pv 5) (pv 8) (fun _ _ => rfl)))))))))), ?_⟩
      have ndd : H pk ≠ none := by
        obtain ⟨φ, e⟩ := nd.some
        rw [e]; simp
      walk_at "rd"
      refine rd_methR G.ob (by rfl) ?_
      walk_at "rd"
      refine ⟨a, rows, q, n, S, rfl, G, hn, by omega, ?_⟩
      walk_at "rd"
      refine rd_I (by refine ⟨by omega, by omega, by decide⟩) ?_
      rw [shl_ok]
      walk_at "rd"
      refine ⟨pb, l, t, w', h, 2 ^ S.level, rfl, hb, fun z => ?_, fun z part hpart => ?_⟩
      · walk_at "rd"
        refine iteT ?_
        walk_at "rd"
        refine ⟨rfl, k2.hf, ?_⟩
        walk_at "rd"
        refine ⟨k2.hf, k2.hc, rows, q, n, S, rfl, G, hn, by omega, by omega, fun H' r' q' m st len hm => ?_⟩
        exact k H' r' q' m _ kvs (DStep.of st out) (nd.keep (st.tup G) fun o e => (st.own e out).1) (kb.pre st.pre) (by omega) hm (PB.out D2 wS z) fun _ _ _ _ _ => rfl
      have s1 := same_upd (o := HO.tup [V.int (cL l), V.int (cL t), V.int (cR (l + w') (2 ^ S.level) - cL l), V.int (cR (t + h) (2 ^ S.level) - cL t)]) hpart
      have hpt : (upd H part (HO.tup [V.int (cL l), V.int (cL t), V.int (cR (l + w') (2 ^ S.level) - cL l), V.int (cR (t + h) (2 ^ S.level) - cL t)])) part = some (.tup (([cL l, cL t, cR (l + w') (2 ^ S.level) - cL l, cR (t + h) (2 ^ S.level) - cL t] : List Int).map V.int)) := upd_same
      generalize upd H part (HO.tup [V.int (cL l), V.int (cL t), V.int (cR (l + w') (2 ^ S.level) - cL l), V.int (cR (t + h) (2 ^ S.level) - cL t)]) = H1 at *
      walk_at "rd"
      refine iteF ?_
      walk_at "rd"
      refine rd_new (hn := by show 4 ≤ sizeLine; decide) fun pe hpe => ?_
      have s2 := same_upd (o := HO.tup [V.int 0, V.int 0, V.int (2 ^ S.level), V.int (2 ^ S.level)]) hpe
      have hpe2 : (upd H1 pe (HO.tup [V.int 0, V.int 0, V.int (2 ^ S.level), V.int (2 ^ S.level)])) pe = some (.tup (([0, 0, 2 ^ S.level, 2 ^ S.level] : List Int).map V.int)) := upd_same
      have hpt2 := s2 _ _ hpt
      have s12 := s1.trans s2
      generalize upd H1 pe (HO.tup [V.int 0, V.int 0, V.int (2 ^ S.level), V.int (2 ^ S.level)]) = H2 at *
      have G2 := G.same s12
      have nd2 := nd.keep (Tup.of s12) fun o e => s12 _ _ e
      refine rd_eqT4 hpt2 hpe2 ?_
      by_cases full : [cL l, cL t, cR (l + w') (2 ^ S.level) - cL l, cR (t + h) (2 ^ S.level) - cL t] = [0, 0, 2 ^ S.level, 2 ^ S.level]
      · rw [decide_eq_true full]
        walk_at "rd"
        have k1' := k1.same s12
        refine ⟨rfl, k1'.hf, ?_⟩
        walk_at "rd"
        refine ⟨k1'.hf, k1'.hc, rows, q, n, S, rfl, G2, hn, by omega, by omega, fun H' r' q' m st len hm => ?_⟩
        have ds := DStep.of (d := pk) st out
        refine k H' r' q' m _ kvs ⟨ds.gat, ds.pre, (fr_of s12).trans ds.fr, fun b hb => (st.new b hb).imp id fun e => none_ofW s12 e, fun e => ds.dd ?_⟩ (nd2.keep (st.tup G2) fun o e => (st.own e out).1) (kb.pre st.pre) (by omega) hm (PB.clip ?_) fun _ _ _ _ _ => rfl
        · cases e' : H pk with
          | none => exact absurd e' e
          | some o => rw [s12 _ _ e']; simp
        · simp only [List.cons.injEq, and_true] at full
          obtain ⟨q1, q2, q3, q4⟩ := full
          rw [q1, q2] at *
          rw [q3, q4]
          exact PB.full D1 wS
      rw [decide_eq_false full]
      · have e0 : S.level = 0 := by omega
        rw [e0] at z full
        have e1 : (2 : Int) ^ 0 = 1 := rfl
        rw [e1] at z full
        exfalso
        apply full
        unfold cL cR at *
        simp only [List.cons.injEq, and_true]
        split at z <;> split at z <;> split at z <;> split at z <;> omega
  | succ L ih =>
    have G_painted := ih
    refine good_mk T 24 (d := d_painted) (N := ["grove", "square", "box", "inside", "outside", "known", "size", "part", "key", "half", "made", "k", "quarter", "place"]) (ps := ["grove", "square", "box", "inside", "outside", "known"]) rfl rfl sc_painted (fun _ _ _ _ _ _ us hl => match us, hl with | [_, _, _, _, _, _], _ => rfl) (fun vs H Q E h => ?_) (fun f cdv A outer σ0 H vs Q E hr h => ?_)
    · obtain ⟨rows, q, n, S, pb, l, t, w', h', pk, kvs, L', rfl, _⟩ := h; rfl
    · obtain ⟨rows, q, n, S, pb, l, t, w', h, pk, kvs, L', rfl, G, hn, hL, l47, hb, k1, k2, nd, out, kb, cl, hC6, hcut, hq, k⟩ := h
      have hu := hu_of hr
      have wS := G.wf _ (List.mem_of_getElem? hn)
      have kl := kb.len G.qn
      refine ⟨_, (pss_cons (ps_set (i := 6) sc_painted.nd rfl (Or.inl rfl) (pe_op op_shl pe_int (pe_mgK K rfl (pv 0) (T.cls 13) (T.meth 25) G_Grove_level_of (hr.mono (by show _ ≤ 11 + L; omega)) (pa_cons (pv 1) pa_nil))))
      (pss_cons (ps_set (i := 7) sc_painted.nd rfl (Or.inl rfl) (pe_cgK K rfl G_clipped (hr.mono (by show _ ≤ 11 + L; omega)) (T.glo 28) (pa_cons (pv 2) (pa_cons (pv 6) pa_nil))))
      (pss_cons (ps_if (pt_cmpR op_isN (pv 7) pe_non (nomark _)) (pss_one (ps_ret (pe_cgV (i := 4) V_outside (hr.mono (by show _ ≤ 11 + L; omega)) rfl (Or.inl rfl) (pa_cons (pv 1) pa_nil)))) pss_nil)
      (pss_cons (ps_if (pt_cmpR (op_eqDK K rfl hr.units) (pv 7) (pe_tup (pa_cons pe_int (pa_cons pe_int (pa_cons (pv 6) (pa_cons (pv 6) pa_nil))))) (nomark _)) (pss_one (ps_ret (pe_cgV (i := 3) V_inside (hr.mono (by show _ ≤ 11 + L; omega)) rfl (Or.inl rfl) (pa_cons (pv 1) pa_nil)))) pss_nil)
      (pss_cons (ps_set (i := 8) sc_painted.nd rfl (Or.inl rfl) (pe_tup (pa_cons (pv 1) (pa_cons (pv 7) pa_nil))))
      (pss_cons (ps_if (pt_cmp (pc_nnotinK P w rfl rfl hr.units (pv 8) (pv 5))) (pss_cons (ps_set (i := 9) sc_painted.nd rfl (Or.inl rfl) (pe_op op_fdivW (pv 6) pe_int))
      (pss_cons (ps_set (i := 10) sc_painted.nd rfl (Or.inl rfl) (pe_lst pa_nil))
      (pss_cons (ps_for PassesOwn.never rfl (pi_enumT (by rfl) (T.free 10) (pa_cons (pe_mgK K rfl (pv 0) (T.cls 13) (T.meth 23) G_Grove_quarters (hr.mono (by show _ ≤ 11 + L; omega)) (pa_cons (pv 1) pa_nil)) pa_nil)) (pg_tup rfl (pgs_cons (pg_name (i := 11) sc_painted.nd rfl (Or.inl rfl)) (pgs_cons (pg_name (i := 12) sc_painted.nd rfl (Or.inl rfl)) pgs_nil))) (pss_cons (ps_set (i := 13) sc_painted.nd rfl (Or.inl rfl) (pe_tup (pa_cons (pe_op op_sub (pe_ix (ix_tupK K rfl) (pv 7) pe_int (fun _ _ => rfl)) (pe_op op_mulW (pe_op op_mod (pv 11) pe_int) (pv 9))) (pa_cons (pe_op op_sub (pe_ix (ix_tupK K rfl) (pv 7) pe_int (fun _ _ => rfl)) (pe_op op_mulW (pe_op op_fdivW (pv 11) pe_int) (pv 9))) (pa_cons (pe_ix (ix_tupK K rfl) (pv 7) pe_int (fun _ _ => rfl)) (pa_cons (pe_ix (ix_tupK K rfl) (pv 7) pe_int (fun _ _ => rfl)) pa_nil))))))
      (pss_one (ps_expr (pe_bm PySem.F.plainAttrs_list PySem.F.slot_list_append PySem.F.type_list_append mt_append (pv 10) (pa_cons (pe_cgK K rfl G_painted (hr.mono (by show _ ≤ 11 + L; omega)) (T.glo 29) (pa_cons (pv 0) (pa_cons (pv 12) (pa_cons (pv 13) (pa_cons (pv 3) (pa_cons (pv 4) (pa_cons (pv 5) pa_nil))))))) pa_nil))))))
      (pss_one (ps_nputK P w rfl rfl hr.units (pv 5) (pv 8) (pe_mgK K rfl (pv 0) (T.cls 13) (T.meth 30) G_Grove_joined (hr.mono (by show _ ≤ 11 + L; omega)) (pa_cons (pe_ix (ix_listK K rfl) (pv 10) pe_int (fun _ _ => rfl)) (pa_cons (pe_ix (ix_listK K rfl) (pv 10) pe_int (fun _ _ => rfl)) (pa_cons (pe_ix (ix_listK K rfl) (pv 10) pe_int (fun _ _ => rfl)) (pa_cons (pe_ix (ix_listK K rfl) (pv 10) pe_int (fun _ _ => rfl)) pa_nil))))) rfl))))) pss_nil)
      (pss_one (ps_ret (pe_ngetK P w rfl rfl hr.units (pv 5) (pv 8) (fun _ _ => rfl)))))))))), ?_⟩
      have ndd : H pk ≠ none := by
        obtain ⟨φ, e⟩ := nd.some
        rw [e]; simp
      walk_at "rd"
      refine rd_methR G.ob (by rfl) ?_
      walk_at "rd"
      refine ⟨a, rows, q, n, S, rfl, G, hn, by omega, ?_⟩
      walk_at "rd"
      refine rd_I (by refine ⟨by omega, by omega, by decide⟩) ?_
      rw [shl_ok]
      walk_at "rd"
      refine ⟨pb, l, t, w', h, 2 ^ S.level, rfl, hb, fun z => ?_, fun z part hpart => ?_⟩
      · walk_at "rd"
        refine iteT ?_
        walk_at "rd"
        refine ⟨rfl, k2.hf, ?_⟩
        walk_at "rd"
        refine ⟨k2.hf, k2.hc, rows, q, n, S, rfl, G, hn, by omega, by omega, fun H' r' q' m st len hm => ?_⟩
        exact k H' r' q' m _ kvs (DStep.of st out) (nd.keep (st.tup G) fun o e => (st.own e out).1) (kb.pre st.pre) (by omega) hm (PB.out D2 wS z) fun _ _ _ _ _ => rfl
      have s1 := same_upd (o := HO.tup [V.int (cL l), V.int (cL t), V.int (cR (l + w') (2 ^ S.level) - cL l), V.int (cR (t + h) (2 ^ S.level) - cL t)]) hpart
      have hpt : (upd H part (HO.tup [V.int (cL l), V.int (cL t), V.int (cR (l + w') (2 ^ S.level) - cL l), V.int (cR (t + h) (2 ^ S.level) - cL t)])) part = some (.tup (([cL l, cL t, cR (l + w') (2 ^ S.level) - cL l, cR (t + h) (2 ^ S.level) - cL t] : List Int).map V.int)) := upd_same
      generalize upd H part (HO.tup [V.int (cL l), V.int (cL t), V.int (cR (l + w') (2 ^ S.level) - cL l), V.int (cR (t + h) (2 ^ S.level) - cL t)]) = H1 at *
      walk_at "rd"
      refine iteF ?_
      walk_at "rd"
      refine rd_new (hn := by show 4 ≤ sizeLine; decide) fun pe hpe => ?_
      have s2 := same_upd (o := HO.tup [V.int 0, V.int 0, V.int (2 ^ S.level), V.int (2 ^ S.level)]) hpe
      have hpe2 : (upd H1 pe (HO.tup [V.int 0, V.int 0, V.int (2 ^ S.level), V.int (2 ^ S.level)])) pe = some (.tup (([0, 0, 2 ^ S.level, 2 ^ S.level] : List Int).map V.int)) := upd_same
      have hpt2 := s2 _ _ hpt
      have s12 := s1.trans s2
      generalize upd H1 pe (HO.tup [V.int 0, V.int 0, V.int (2 ^ S.level), V.int (2 ^ S.level)]) = H2 at *
      have G2 := G.same s12
      have nd2 := nd.keep (Tup.of s12) fun o e => s12 _ _ e
      refine rd_eqT4 hpt2 hpe2 ?_
      by_cases full : [cL l, cL t, cR (l + w') (2 ^ S.level) - cL l, cR (t + h) (2 ^ S.level) - cL t] = [0, 0, 2 ^ S.level, 2 ^ S.level]
      · rw [decide_eq_true full]
        walk_at "rd"
        have k1' := k1.same s12
        refine ⟨rfl, k1'.hf, ?_⟩
        walk_at "rd"
        refine ⟨k1'.hf, k1'.hc, rows, q, n, S, rfl, G2, hn, by omega, by omega, fun H' r' q' m st len hm => ?_⟩
        have ds := DStep.of (d := pk) st out
        refine k H' r' q' m _ kvs ⟨ds.gat, ds.pre, (fr_of s12).trans ds.fr, fun b hb => (st.new b hb).imp id fun e => none_ofW s12 e, fun e => ds.dd ?_⟩ (nd2.keep (st.tup G2) fun o e => (st.own e out).1) (kb.pre st.pre) (by omega) hm (PB.clip ?_) fun _ _ _ _ _ => rfl
        · cases e' : H pk with
          | none => exact absurd e' e
          | some o => rw [s12 _ _ e']; simp
        · simp only [List.cons.injEq, and_true] at full
          obtain ⟨q1, q2, q3, q4⟩ := full
          rw [q1, q2] at *
          rw [q3, q4]
          exact PB.full D1 wS
      rw [decide_eq_false full]
      · cases S with
        | leaf s0 =>
          exfalso
          have e1 : (2 : Int) ^ (Sq.leaf s0).level = 1 := rfl
          rw [e1] at z full
          apply full
          unfold cL cR at *
          simp only [List.cons.injEq, and_true]
          split at z <;> split at z <;> split at z <;> split at z <;> omega
        | node A' B' C' D' =>
        have hlt1 : cL l < cR (l + w') (2 ^ (Sq.node A' B' C' D').level) := Int.not_le.mp fun y => z (.inl y)
        have hlt2 : cL t < cR (t + h) (2 ^ (Sq.node A' B' C' D').level) := Int.not_le.mp fun y => z (.inr y)
        have hpar := hcut hlt1 hlt2
        have fin : ∀ R, PB hi ho (cL l) (cL t) (cR (l + w') (2 ^ (Sq.node A' B' C' D').level) - cL l) (cR (t + h) (2 ^ (Sq.node A' B' C' D').level) - cL t) (Sq.node A' B' C' D') R → PB hi ho l t w' h (Sq.node A' B' C' D') R := fun R p => PB.clip p
        clear hcut z full hlt1 hlt2 hpe2
        generalize cL l = u at *
        generalize cL t = u' at *
        generalize cR (l + w') (2 ^ (Sq.node A' B' C' D').level) = v at *
        generalize cR (t + h) (2 ^ (Sq.node A' B' C' D').level) = v' at *
        have hlv : (Sq.node A' B' C' D').level = A'.level + 1 := rfl
        have hp2 : (2 : Int) ^ (Sq.node A' B' C' D').level = 2 * 2 ^ A'.level := Sq.two_succ _
        have hps := Sq.two_pos A'.level
        have hpm := two_mono (show A'.level ≤ 47 by omega)
        have e47 : (2 : Int) ^ 47 = 140737488355328 := by decide
        obtain ⟨wa, wb, wc, wd, ee1, ee2, ee3⟩ := id wS
        walk_at "rd"
        refine rd_new (hn := by show 2 ≤ sizeLine; decide) fun pke hpke => ?_
        have s3 := same_upd (o := HO.tup [V.int (n : Int), V.ref part]) hpke
        have hke : KAtN (upd H2 pke (HO.tup [V.int (n : Int), V.ref part])) pke (nk n [u, u', v - u, v' - u']) := ⟨n, _, part, rfl, upd_same, s3 _ _ hpt2⟩
        have hpt3 := s3 _ _ hpt2
        have s13 := s12.trans s3
        generalize upd H2 pke (HO.tup [V.int (n : Int), V.ref part]) = H3 at *
        have G3 := G.same s13
        have nd3 := nd.keep (Tup.of s13) fun o e => s13 _ _ e
        walk_at "rd"
        refine rd_nnotin ?_
        walk_at "rd"
        refine ⟨pk, pke, kvs, _, rfl, rfl, nd3, hke, ?_⟩
        have upH : ∀ {Hx : Hp} {rx : List (Int × Addr)} {qx : List Sq}, DStep (CG K) pk H3 a rows q Hx rx qx → DStep (CG K) pk H a rows q Hx rx qx := fun {Hx rx qx} x =>
          ⟨x.gat, x.pre, (fr_of s13).trans x.fr, fun b hb => (x.new b hb).imp id fun e => none_ofW s13 e, fun e => x.dd (by
            cases e' : H pk with
            | none => exact absurd e' e
            | some o => rw [s13 _ _ e']; simp)⟩
        have ds0 : DStep (CG K) pk H3 a rows q H3 rows q := ⟨G3, List.prefix_refl _, Fr.refl _ _, fun b hb => .inl hb, id⟩
        cases hv : valV kvs (nk n [u, u', v - u, v' - u']) with
        | some vv =>
          obtain ⟨m, R, rfl, hm, hR⟩ := kb.at hn hv
          walk_at "rd"
          refine iteF ?_
          walk_at "rd"
          refine rd_nget ?_
          walk_at "rd"
          refine ⟨pk, pke, kvs, _, _, rfl, rfl, nd3, hke, hv, ?_⟩
          exact k H3 rows q m R kvs (upH ds0) nd3 kb (by omega) hm (fin R hR) fun _ _ _ _ _ => rfl
        | none =>
        walk_at "rd"
        refine iteT ?_
        walk_at "rd"
        have eh : (2 : Int) ^ (Sq.node A' B' C' D').level / 2 = 2 ^ A'.level := by omega
        rw [eh]
        refine rd_new (hn := by show 0 ≤ sizeLine; decide) fun D hD => ?_
        have s4 := same_upd (o := HO.lst []) hD
        have LD : (upd H3 D (HO.lst [])) D = some (.lst []) := upd_same
        have Dpk : D ≠ pk := fun y => by
          obtain ⟨φ, e⟩ := nd3.some
          rw [← y, hD] at e; cases e
        have Dm : D ∉ a.muts rows := G3.new_out hD
        have G4 := G3.same s4
        have ds4 := ds0.same s4
        have nd4 := nd3.keep (Tup.of s4) fun o e => s4 _ _ e
        generalize upd H3 D (HO.lst []) = H4 at *
        have ndd3 : H3 pk ≠ none := by
          obtain ⟨φ, e⟩ := nd3.some
          rw [e]; simp
        walk_at "rd"
        refine rd_iET ?_
        walk_at "rd"
        refine rd_methR G4.ob (by rfl) ?_
        walk_at "rd"
        refine ⟨a, rows, q, n, _, _, _, _, rfl, G4, hn, by omega, fun t4 m1 m2 m3 m4 ht e1 e2 e3 e4 => ?_⟩
        refine ⟨t4, _, rfl, ht, ?_⟩
        obtain ⟨Z, hZ⟩ : ∃ Z, Z = [A', B', C', D'] := ⟨_, rfl⟩
        have k13 := k1.same s13
        have k23 := k2.same s13
        refine for_it (walk_enumT (a := t4) (xs := [V.int (m1 : Int), .int (m2 : Int), .int (m3 : Int), .int (m4 : Int)])) (fun i σ H' => ∃ (r' : List (Int × Addr)) (q' : List Sq) (kvs' : List (NestedKey × V)) (ms : List Nat) (x11 x12 x13 : Option V), σ = [some (.ref a.g), some (.int (n : Int)), some (.ref pb), some (.ref f1), some (.ref f2), some (.ref pk), some (.int (2 ^ (Sq.node A' B' C' D').level)), some (.ref part), some (.ref pke), some (.int (2 ^ A'.level)), some (.ref D), x11, x12, x13] ∧
            DStep (CG K) pk H3 a rows q H' r' q' ∧ Tup H4 H' ∧ ND P w H' pk kvs' ∧ KB hi ho L' q' kvs' ∧ q'.length + 210 * kvs.length ≤ q.length + 210 * kvs'.length + 50 * i ∧ H' D = some (.lst (ms.map fun m : Nat => V.int (m : Int))) ∧ D ∉ a.muts r' ∧ ms.length = i ∧
            (∀ (j m : Nat) T, ms[j]? = some m → Z[j]? = some T → ∃ R, q'[m]? = some R ∧ PB hi ho (u - (j : Int) % 2 * 2 ^ A'.level) (u' - (j : Int) / 2 * 2 ^ A'.level) (v - u) (v' - u') T R) ∧
            ∀ (n' : Nat) T (p : List Int), q[n']? = some T → A'.level < T.level → valV kvs' (nk n' p) = valV kvs (nk n' p))
          ⟨rows, q, kvs, [], none, none, none, rfl, ds4, Tup.refl _, nd4, kb, by omega, LD, Dm, rfl, fun j m T e => by simp at e, fun _ _ _ _ _ => rfl⟩ ?_ ?_ ?_
        · rintro i σ H' _ ⟨_, _, _, _, _, _, _, _, _, tu, _⟩
          exact tu _ _ ht
        · rintro i vv σ Ha Hb hi' ⟨r1, q1, kvs1, ms, x11, x12, x13, rfl, ds1, tu1, nd1, kb1, lq1, LD1, Dm1, ml, hms, hkk⟩ ⟨t2, u1, u2, rfl, ht2, rfl, eu1, eu2⟩
          have hi4 : i < 4 := hi'
          cases eu1
          obtain ⟨xm, T', rfl, hxm, hlT, hcT, hZi⟩ : ∃ (xm : Nat) (T' : Sq), u2 = .int (xm : Int) ∧ q[xm]? = some T' ∧ T'.level = A'.level ∧ [A', B', C', D'][i]? = some T' ∧ Z[i]? = some T' := by
            rw [hZ]
            match i, hi4, eu2 with
            | 0, _, eu2 => exact ⟨m1, A', (Option.some.inj eu2).symm, e1, rfl, rfl, rfl⟩
            | 1, _, eu2 => exact ⟨m2, B', (Option.some.inj eu2).symm, e2, ee1, rfl, rfl⟩
            | 2, _, eu2 => exact ⟨m3, C', (Option.some.inj eu2).symm, e3, ee2, rfl, rfl⟩
            | 3, _, eu2 => exact ⟨m4, D', (Option.some.inj eu2).symm, e4, ee3, rfl, rfl⟩
          have s5 := same_upd (o := .tup [V.int (i : Int), V.int (xm : Int)]) ht2
          have T5 : (upd Ha t2 (.tup [V.int (i : Int), V.int (xm : Int)])) t2 = some (.tup [V.int (i : Int), V.int (xm : Int)]) := upd_same
          have ds5 := ds1.same s5
          have nd5 := nd1.keep (Tup.of s5) fun o e => s5 _ _ e
          have tu5 := tu1.trans (Tup.of s5)
          have LD5 := s5 _ _ LD1
          have hptA : Ha part = some (.tup (([u, u', v - u, v' - u'] : List Int).map V.int)) := tu1 _ _ (s4 _ _ hpt3)
          have hpt5 := s5 _ _ hptA
          generalize upd Ha t2 (.tup [V.int (i : Int), V.int (xm : Int)]) = H5 at *
          have hpt5' : H5 part = some (.tup [V.int u, V.int u', V.int (v - u), V.int (v' - u')]) := hpt5
          walk_at "rd"
          refine rd_I (mulW_of (by omega) (by omega) (by omega) (by omega)) ?_
          walk_at "rd"
          refine rd_I (mulW_of (by omega) (by omega) (by omega) (by omega)) ?_
          walk_at "rd"
          refine rd_new (hn := by show 4 ≤ sizeLine; decide) fun pl hpl => ?_
          have s6 := same_upd (o := .tup [V.int (u - (i : Int) % 2 * 2 ^ A'.level), V.int (u' - (i : Int) / 2 * 2 ^ A'.level), V.int (v - u), V.int (v' - u')]) hpl
          have B6 : BoxT (upd H5 pl (.tup [V.int (u - (i : Int) % 2 * 2 ^ A'.level), V.int (u' - (i : Int) / 2 * 2 ^ A'.level), V.int (v - u), V.int (v' - u')])) pl (u - (i : Int) % 2 * 2 ^ A'.level) (u' - (i : Int) / 2 * 2 ^ A'.level) (v - u) (v' - u') := upd_same
          have ds6 := ds5.same s6
          have nd6 := nd5.keep (Tup.of s6) fun o e => s6 _ _ e
          have tu6 := tu5.trans (Tup.of s6)
          have LD6 := s6 _ _ LD5
          generalize upd H5 pl (.tup [V.int (u - (i : Int) % 2 * 2 ^ A'.level), V.int (u' - (i : Int) / 2 * 2 ^ A'.level), V.int (v - u), V.int (v' - u')]) = H6 at *
          walk_at "rd"
          have kx : ((i : Nat) : Int) % 2 = 0 ∨ ((i : Nat) : Int) % 2 = 1 := by omega
          have ky : ((i : Nat) : Int) / 2 = 0 ∨ ((i : Nat) : Int) / 2 = 1 := by omega
          refine rd_tyL LD6 ?_
          walk_at "rd"
          refine ⟨r1, q1, xm, T', pl, _, _, _, _, pk, kvs1, L', rfl, ds6.gat, pre_get ds6.pre hxm, by omega, by omega, B6, k13.step G3 ds6, k23.step G3 ds6, nd6, ds6.out ndd3 out, kb1, cl, hC6, ?_, by rw [hlT]; omega, fun H7 r7 q7 m7 R7 k7 ds7 nd7 kb7 lq7 hm7 pb7 hk7 => ?_⟩
          · rw [hlT]
            intro n1 n2
            exact cl _ _ _ _ _ _ _ _ hpar i T' hcT n1 n2
          have D6 : H6 D ≠ none := by rw [LD6]; simp
          have Dm7 : D ∉ a.muts r7 := fun y => by
            rcases ds7.new D y with y | y
            · exact Dm1 y
            · exact D6 y
          have LD7 := ds7.fr _ _ LD6 fun y => by
            rcases List.mem_cons.mp y with y | y
            · exact Dpk y
            · exact Dm1 y
          have ds37 := ds6.trans ds7 ndd3
          have tu7 : Tup H6 H7 := fun b ys e => ds7.fr _ _ e fun y => by
            rcases List.mem_cons.mp y with y | y
            · obtain ⟨φ, e'⟩ := nd6.some
              rw [y, e'] at e; cases e
            · exact ds6.gat.tup_out e y
          walk_at "rd"
          refine rd_append LD7 (by rw [List.length_map]; exact small1000 (by omega)) ?_
          walk_at "rd"
          have tD : Tup H7 (upd H7 D (.lst (ms.map (fun m : Nat => V.int (m : Int)) ++ [V.int (m7 : Int)]))) := fun b ys e => by
            rw [upd_ne (fun y => by rw [y, LD7] at e; cases e)]; exact e
          refine ⟨r7, q7, k7, ms ++ [m7], _, _, _, rfl, ⟨ds37.gat.upd (fun u e => by rw [LD7] at e; cases e; exact fun z => z) Dm7, ds37.pre, fun b o e nn => by
              rw [upd_ne (fun y => by rw [y, hD] at e; cases e)]
              exact ds37.fr b o e nn, ds37.new, fun e => by
              rw [upd_ne Dpk.symm]; exact ds37.dd e⟩, (tu6.trans tu7).trans tD, nd7.keep tD (fun o e => by rw [upd_ne Dpk.symm]; exact e), kb7, by omega, by rw [upd_same, List.map_append]; rfl, Dm7, by rw [List.length_append, ml]; rfl, fun j m T f1' f2' => ?_, fun n' T p f1' f2' => (hk7 n' T p (pre_get ds6.pre f1') (by omega)).trans (hkk n' T p f1' f2')⟩
          rcases snoc_get3 f1' with f1' | ⟨rfl, rfl⟩
          · obtain ⟨R, r1', r2'⟩ := hms j m T f1' f2'
            exact ⟨R, pre_get ds7.pre r1', r2'⟩
          · rw [ml, hZi] at f2'
            cases f2'
            rw [ml]
            exact ⟨R7, hm7, pb7⟩
        rintro σ H8 ⟨r8, q8, k8, ms, x11, x12, x13, rfl, ds8, tu8, nd8, kb8, lq8, LD8, Dm8, ml, hms, hkk⟩
        have G8 := ds8.gat
        have kl8 := kb8.len G8.qn
        have out8 := ds8.out ndd3 out
        obtain ⟨z0, z1, z2, z3, rfl⟩ : ∃ z0 z1 z2 z3, ms = [z0, z1, z2, z3] := by
          match ms, ml with
          | [a, b, c, d], _ => exact ⟨a, b, c, d, rfl⟩
        rw [hZ] at hms
        obtain ⟨R0, r0, p0⟩ := hms 0 z0 _ rfl rfl
        obtain ⟨R1, r1, p1⟩ := hms 1 z1 _ rfl rfl
        obtain ⟨R2, r2, p2⟩ := hms 2 z2 _ rfl rfl
        obtain ⟨R3, r3, p3⟩ := hms 3 z3 _ rfl rfl
        have lv0 := p0.lv; have lv1 := p1.lv; have lv2 := p2.lv; have lv3 := p3.lv
        have p0' : PB hi ho u u' (v - u) (v' - u') A' R0 := by simpa using p0
        have p1' : PB hi ho (u - 2 ^ A'.level) u' (v - u) (v' - u') B' R1 := by simpa using p1
        have p2' : PB hi ho u (u' - 2 ^ A'.level) (v - u) (v' - u') C' R2 := by simpa using p2
        have p3' : PB hi ho (u - 2 ^ A'.level) (u' - 2 ^ A'.level) (v - u) (v' - u') D' R3 := by simpa using p3
        have pn := PB.node wS p0' p1' p2' p3'
        have lq8' : q8.length + 210 * kvs.length ≤ q.length + 210 * k8.length + 200 := lq8
        walk_at "rd"
        with_reducible refine rd_nput ?_
        walk_at "rd"
        refine rd_methR G8.ob (by rfl) ?_
        walk_at "rd"
        refine rd_ixL (SqL.of LD8) (atI_nat (j := 0) rfl) ?_
        walk_at "rd"
        refine rd_ixL (SqL.of LD8) (atI_nat (j := 1) rfl) ?_
        walk_at "rd"
        refine rd_ixL (SqL.of LD8) (atI_nat (j := 2) rfl) ?_
        walk_at "rd"
        refine rd_ixL (SqL.of LD8) (atI_nat (j := 3) rfl) ?_
        walk_at "rd"
        refine ⟨a, r8, q8, R0, R1, R2, R3, z0, z1, z2, z3, rfl, G8, r0, r1, r2, r3, by omega, by omega, by omega, by omega, by omega, fun H9 q9 m9 st9 len9 hm9 fr9 => ?_⟩
        have tu9 : Tup H8 H9 := st9.tup G8
        have nd9 := nd8.keep tu9 fun o e => (st9.own e out8).1
        have hke4 : KAtN H4 pke (nk n [u, u', v - u, v' - u']) := hke.keep (Tup.of s4)
        have hke9 := (hke4.keep tu8).keep tu9
        walk_at "rd"
        refine ⟨pk, pke, k8, _, rfl, rfl, nd9, hke9, by omega, fun H10 nd10 hsame => ?_⟩
        have hv8 : valV k8 (nk n [u, u', v - u, v' - u']) = none := by rw [hkk n _ _ hn (by show A'.level < A'.level + 1; omega)]; exact hv
        obtain ⟨kb10, ep⟩ := (kb8.pre st9.pre).put (pre_get (ds8.pre.trans st9.pre) hn) hpar hm9 pn hv8
        have ds9 := ds8.trans (DStep.of (d := pk) st9 out8) ndd3
        obtain ⟨φ, e9⟩ := nd9.some
        have tu10 : Tup H9 H10 := fun b ys e => by rw [hsame b (fun y => by rw [y, e9] at e; cases e)]; exact e
        have G10 : GAt (CG K) H10 a r8 q9 := st9.gat.keep fun b o e y => by
          have : b ≠ pk := fun y' => by
            subst y'
            rcases y with y | y
            · rw [e9] at e; cases e; exact y
            · exact ds9.out ndd3 out y
          rw [hsame b this]; exact e
        have hke10 := hke9.keep tu10
        walk_at "rd"
        refine rd_nget ?_
        walk_at "rd"
        refine ⟨pk, pke, _, _, .int (m9 : Int), rfl, rfl, nd10, hke10, by rw [valV_put, if_pos rfl], ?_⟩
        refine k H10 r8 q9 m9 _ _ (upH ⟨G10, ds9.pre, fun b o e nn => ?_, ds9.new, fun _ => ?_⟩) nd10 kb10 ?_ hm9 (fin _ pn) fun n' T p f1' f2' => ?_
        · rw [hsame b (fun y => nn (by rw [y]; exact List.mem_cons_self))]
          exact ds9.fr b o e nn
        · obtain ⟨φ', e10⟩ := nd10.some
          rw [e10]; simp
        · rw [ep, List.length_append]
          show q9.length + 210 * kvs.length ≤ q.length + 210 * (k8.length + 1) + 50
          omega
        · rw [valV_put, if_neg (fun y => ?_)]
          · exact hkk n' T p f1' (by have : A'.level + 1 < T.level := f2'; omega)
          · obtain ⟨y1, _⟩ := nk_inj y
            have y2 : n' = n := by omega
            rw [y2, hn] at f1'
            cases f1'
            exact absurd f2' (Nat.lt_irrefl _)
end
end JF

/-! ### fields that are plain but for a few places and breaks -/
namespace JF
open PySem PySem.Spec PyProof.Rows L2
/-- alike wherever no break lies between, but for some places -/
def Pl (v : Int → Int → Int) (xs ys : List Int) (ms : List (Int × Int)) : Prop :=
  ∀ x y x' y', (x, y) ∉ ms → (x', y') ∉ ms → (∀ b ∈ xs, x < b ↔ x' < b) → (∀ b ∈ ys, y < b ↔ y' < b) → v x y = v x' y'
section
variable {v : Int → Int → Int} {xs ys : List Int} {ms : List (Int × Int)}
theorem Pl.mono {xs' ys' : List Int} {ms' : List (Int × Int)} (h : Pl v xs ys ms) (hx : ∀ b ∈ xs, b ∈ xs') (hy : ∀ b ∈ ys, b ∈ ys') (hm : ∀ b ∈ ms, b ∈ ms') : Pl v xs' ys' ms' :=
  fun x y x' y' n n' bx bY => h x y x' y' (fun z => n (hm _ z)) (fun z => n' (hm _ z)) (fun b hb => bx b (hx b hb)) (fun b hb => bY b (hy b hb))
theorem Pl.congr {v' : Int → Int → Int} (h : Pl v xs ys ms) (e : ∀ u z, v' u z = v u z) : Pl v' xs ys ms :=
  fun x y x' y' n n' bx bY => by rw [e, e]; exact h x y x' y' n n' bx bY
theorem Pl.const (s : Int) : Pl (fun _ _ => s) xs ys ms := fun _ _ _ _ _ _ _ _ => rfl
/-- where a box is done to by one map, all else by another -/
theorem Pl.box {f g : Int → Int} {l r t b : Int} (h : Pl v xs ys ms) (h1 : l ∈ xs) (h2 : r ∈ xs) (h3 : t ∈ ys) (h4 : b ∈ ys) : Pl (fun u z => if l ≤ u ∧ u < r ∧ t ≤ z ∧ z < b then f (v u z) else g (v u z)) xs ys ms :=
  fun x y x' y' n n' bx bY => by
    have e := h x y x' y' n n' bx bY
    have b1 := bx l h1; have b2 := bx r h2; have b3 := bY t h3; have b4 := bY b h4
    dsimp only
    rw [e]
    by_cases c : l ≤ x ∧ x < r ∧ t ≤ y ∧ y < b
    · rw [if_pos c, if_pos (by omega)]
    · rw [if_neg c, if_neg (by omega)]
theorem layC_off : ∀ (cs : List Cell3) (v : Int → Int → Int) (x y : Int), (x, y) ∉ cs.map (fun c => (c.1, c.2.1)) → layC v cs x y = v x y
  | [], _, _, _, _ => rfl
  | c :: cs, v, x, y, n => by
    rw [List.map_cons, List.mem_cons] at n
    show layC (fun u z => if u = c.1 ∧ z = c.2.1 then c.2.2 else v u z) cs x y = v x y
    rw [layC_off cs _ x y fun z => n (.inr z), if_neg fun z => n (.inl (by rw [z.1, z.2]))]
theorem pl_cells (cs : List Cell3) (h : Pl v xs ys []) : Pl (layC v cs) xs ys (cs.map fun c => (c.1, c.2.1)) := fun x y x' y' n n' bx bY => by
  rw [layC_off cs v x y n, layC_off cs v x' y' n']
  exact h x y x' y' (by simp) (by simp) bx bY
end
/-! #### the square at a place within a square -/
structure SubAt (S T : Sq) (X Y : Int) : Prop where
  wf : T.wf
  lv : T.level ≤ S.level
  dx : (2 : Int) ^ T.level ∣ X
  dy : (2 : Int) ^ T.level ∣ Y
  x0 : 0 ≤ X
  x1 : X + 2 ^ T.level ≤ 2 ^ S.level
  y0 : 0 ≤ Y
  y1 : Y + 2 ^ T.level ≤ 2 ^ S.level
  gt : ∀ x y : Int, 0 ≤ x → x < 2 ^ T.level → 0 ≤ y → y < 2 ^ T.level → T.get x y = S.get (X + x) (Y + y)
theorem SubAt.self {S : Sq} (w : S.wf) : SubAt S S 0 0 := ⟨w, Nat.le_refl _, ⟨0, by omega⟩, ⟨0, by omega⟩, by omega, by omega, by omega, by omega, fun x y _ _ _ _ => by rw [Int.zero_add, Int.zero_add]⟩
theorem SubAt.child {S a b c d : Sq} {X Y : Int} (h : SubAt S (.node a b c d) X Y) (k : Nat) (T : Sq) (hk : [a, b, c, d][k]? = some T) : SubAt S T (X + (k : Int) % 2 * 2 ^ a.level) (Y + (k : Int) / 2 * 2 ^ a.level) ∧ T.level = a.level := by
  obtain ⟨w, lv, dx, dy, x0, x1, y0, y1, gt⟩ := h
  obtain ⟨wa, wb, wc, wd, e1, e2, e3⟩ := id w
  have e2p : (2 : Int) ^ (Sq.node a b c d).level = 2 * 2 ^ a.level := Sq.two_succ _
  have lN : (Sq.node a b c d).level = a.level + 1 := rfl
  rw [e2p] at dx dy x1 y1 gt
  have hp := Sq.two_pos a.level
  have g := fun {u v : Int} (u0 : 0 ≤ u) (u1 : u < 2 ^ a.level) (v0 : 0 ≤ v) (v1 : v < 2 ^ a.level) => get_nodeW w u0 u1 v0 v1
  have dv : ∀ {Z : Int}, 2 * (2 : Int) ^ a.level ∣ Z → (2 : Int) ^ a.level ∣ Z ∧ (2 : Int) ^ a.level ∣ Z + 2 ^ a.level := fun {Z} ⟨z, hz⟩ => ⟨⟨2 * z, by rw [hz, Int.mul_comm 2 ((2 : Int) ^ a.level), Int.mul_assoc]⟩, ⟨2 * z + 1, by rw [hz, Int.mul_add, Int.mul_one, Int.mul_comm 2 ((2 : Int) ^ a.level), Int.mul_assoc]⟩⟩
  have hk4 : k < 4 := (List.getElem?_eq_some_iff.mp hk).1
  match k, hk4, hk with
  | 0, _, hk =>
    cases hk
    refine ⟨⟨wa, by omega, by simpa using (dv dx).1, by simpa using (dv dy).1, by simpa using x0, by simp; omega, by simpa using y0, by simp; omega, fun x y a0 a1 b0 b1 => ?_⟩, rfl⟩
    rw [← (g a0 a1 b0 b1).1, gt x y a0 (by omega) b0 (by omega)]
    simp
  | 1, _, hk =>
    cases hk
    refine ⟨⟨wb, by omega, by rw [e1]; simpa using (dv dx).2, by rw [e1]; simpa using (dv dy).1, by simp; omega, by rw [e1]; simp; omega, by simpa using y0, by rw [e1]; simp; omega, fun x y a0 a1 b0 b1 => ?_⟩, e1⟩
    rw [e1] at a1 b1
    rw [← (g a0 a1 b0 b1).2.1, gt _ y (by omega) (by omega) b0 (by omega)]
    have z1 : X + (x + 2 ^ a.level) = X + 2 ^ a.level + x := by omega
    rw [z1]
    simp
  | 2, _, hk =>
    cases hk
    refine ⟨⟨wc, by omega, by rw [e2]; simpa using (dv dx).1, by rw [e2]; simpa using (dv dy).2, by simpa using x0, by rw [e2]; simp; omega, by simp; omega, by rw [e2]; simp; omega, fun x y a0 a1 b0 b1 => ?_⟩, e2⟩
    rw [e2] at a1 b1
    rw [← (g a0 a1 b0 b1).2.2.1, gt x _ a0 (by omega) (by omega) (by omega)]
    have z1 : Y + (y + 2 ^ a.level) = Y + 2 ^ a.level + y := by omega
    rw [z1]
    simp
  | 3, _, hk =>
    cases hk
    refine ⟨⟨wd, by omega, by rw [e3]; simpa using (dv dx).2, by rw [e3]; simpa using (dv dy).2, by simp; omega, by rw [e3]; simp; omega, by simp; omega, by rw [e3]; simp; omega, fun x y a0 a1 b0 b1 => ?_⟩, e3⟩
    rw [e3] at a1 b1
    rw [← (g a0 a1 b0 b1).2.2.2, gt _ _ (by omega) (by omega) (by omega) (by omega)]
    have z1 : X + (x + 2 ^ a.level) = X + 2 ^ a.level + x := by omega
    have z2 : Y + (y + 2 ^ a.level) = Y + 2 ^ a.level + y := by omega
    rw [z1, z2]
    simp
/-! #### kinds of columns -/
def below (xs : List Int) (X : Int) : Option Int := (xs.filter fun b => decide (b ≤ X)).max?
theorem below_mem {xs : List Int} {X : Int} : below xs X ∈ none :: xs.map some := by
  unfold below
  cases h : (xs.filter fun b => decide (b ≤ X)).max? with
  | none => exact List.mem_cons_self
  | some m => exact List.mem_cons_of_mem _ (List.mem_map.mpr ⟨m, (List.mem_filter.mp (List.max?_mem h)).1, rfl⟩)
theorem below_same {xs : List Int} {X X' b : Int} (e : below xs X = below xs X') (hb : b ∈ xs) (h : b ≤ X) : b ≤ X' := by
  unfold below at e
  have m1 : b ∈ xs.filter fun b => decide (b ≤ X) := List.mem_filter.mpr ⟨hb, decide_eq_true h⟩
  cases h1 : (xs.filter fun b => decide (b ≤ X)).max? with
  | none =>
    rw [List.max?_eq_none_iff] at h1
    rw [h1] at m1; cases m1
  | some m =>
    have h2 := (List.max?_eq_some_iff.mp h1).2 b m1
    rw [h1] at e
    have h3 := List.max?_mem e.symm
    have h4 := of_decide_eq_true (List.mem_filter.mp h3).2
    omega
def ck (xs : List Int) (s X : Int) : Sum (Option Int) Int := if ∃ b ∈ xs, X < b ∧ b < X + s then .inr X else .inl (below xs X)
def ckL (xs : List Int) (s : Int) : List (Sum (Option Int) Int) := (none :: xs.map some).map Sum.inl ++ xs.map fun b => Sum.inr (s * (b / s))
theorem ckL_len (xs : List Int) (s : Int) : (ckL xs s).length = 2 * xs.length + 1 := by
  unfold ckL
  rw [List.length_append, List.length_map, List.length_map, List.length_cons, List.length_map]
  omega
theorem mul_at {s X b : Int} (hs : 0 < s) (hd : s ∣ X) (h1 : X ≤ b) (h2 : b < X + s) : s * (b / s) = X := by
  obtain ⟨k, rfl⟩ := hd
  have a0 := Int.emod_nonneg b (show s ≠ 0 by omega)
  have a1 := Int.emod_lt_of_pos b hs
  have a2 := Int.mul_ediv_add_emod b s
  have e : b / s = k := by
    have l1 : k ≤ b / s := (Int.le_ediv_iff_mul_le hs).mpr (by rw [Int.mul_comm]; exact h1)
    have l2 : b / s < k + 1 := (Int.ediv_lt_iff_lt_mul hs).mpr (by rw [Int.add_mul, Int.one_mul, Int.mul_comm k s]; exact h2)
    omega
  rw [e]
theorem ck_mem {xs : List Int} {s X : Int} (hs : 0 < s) (hd : s ∣ X) : ck xs s X ∈ ckL xs s := by
  unfold ck ckL
  by_cases c : ∃ b ∈ xs, X < b ∧ b < X + s
  · rw [if_pos c]
    obtain ⟨b, hb, b1, b2⟩ := c
    exact List.mem_append_right _ (List.mem_map.mpr ⟨b, hb, by rw [mul_at hs hd (by omega) b2]⟩)
  · rw [if_neg c]
    exact List.mem_append_left _ (List.mem_map.mpr ⟨_, below_mem, rfl⟩)
theorem ck_same {xs : List Int} {s X X' : Int} (e : ck xs s X = ck xs s X') {b x : Int} (hb : b ∈ xs) (x0 : 0 ≤ x) (x1 : x < s) : X + x < b ↔ X' + x < b := by
  unfold ck at e
  by_cases c : ∃ b ∈ xs, X < b ∧ b < X + s
  · rw [if_pos c] at e
    split at e
    · have e' : X = X' := by injection e
      rw [e']
    · cases e
  · rw [if_neg c] at e
    split at e
    · cases e
    · next c' =>
      have e' : below xs X = below xs X' := by injection e
      have n1 : ¬ (X < b ∧ b < X + s) := fun z => c ⟨b, hb, z⟩
      have n2 : ¬ (X' < b ∧ b < X' + s) := fun z => c' ⟨b, hb, z⟩
      have f1 := fun z => below_same e' hb z
      have f2 := fun z => below_same e'.symm hb z
      by_cases y : b ≤ X
      · have := f1 y; omega
      · have : ¬ b ≤ X' := fun z => y (f2 z)
        omega
theorem ck_part {xs : List Int} {s X X' l r : Int} (e : ck xs s X = ck xs s X') (hl : l ∈ xs) (hr : r ∈ xs) (n : cL (l - X) < cR (r - X) s) (n' : cL (l - X') < cR (r - X') s) : cL (l - X) = cL (l - X') ∧ cR (r - X) s = cR (r - X') s := by
  unfold ck at e
  by_cases c : ∃ b ∈ xs, X < b ∧ b < X + s
  · rw [if_pos c] at e
    split at e
    · have e' : X = X' := by injection e
      rw [e']; exact ⟨rfl, rfl⟩
    · cases e
  · rw [if_neg c] at e
    split at e
    · cases e
    · next c' =>
      have l1 : ¬ (X < l ∧ l < X + s) := fun z => c ⟨l, hl, z⟩
      have l2 : ¬ (X' < l ∧ l < X' + s) := fun z => c' ⟨l, hl, z⟩
      have r1 : ¬ (X < r ∧ r < X + s) := fun z => c ⟨r, hr, z⟩
      have r2 : ¬ (X' < r ∧ r < X' + s) := fun z => c' ⟨r, hr, z⟩
      unfold cL cR at *
      split at n <;> split at n <;> split at n' <;> split at n' <;> (refine ⟨?_, ?_⟩ <;> first | omega | (split <;> first | omega | (split <;> omega)))
/-! #### kinds of places -/
def pk (xs ys : List Int) (ms : List (Int × Int)) (s X Y : Int) : Sum (Int × Int) (Sum (Option Int) Int × Sum (Option Int) Int) :=
  if ∃ p ∈ ms, X ≤ p.1 ∧ p.1 < X + s ∧ Y ≤ p.2 ∧ p.2 < Y + s then .inl (X, Y) else .inr (ck xs s X, ck ys s Y)
def pkL (xs ys : List Int) (ms : List (Int × Int)) (s : Int) : List (Sum (Int × Int) (Sum (Option Int) Int × Sum (Option Int) Int)) :=
  ms.map (fun p => .inl (s * (p.1 / s), s * (p.2 / s))) ++ (ckL xs s).flatMap fun c => (ckL ys s).map fun d => .inr (c, d)
theorem pkL_len (xs ys : List Int) (ms : List (Int × Int)) (s : Int) : (pkL xs ys ms s).length = ms.length + (2 * xs.length + 1) * (2 * ys.length + 1) := by
  unfold pkL
  rw [List.length_append, List.length_map, List.length_flatMap]
  have e : ∀ c : List (Sum (Option Int) Int), (c.map fun c => ((ckL ys s).map fun d => (Sum.inr (c, d) : Sum (Int × Int) (Sum (Option Int) Int × Sum (Option Int) Int))).length).sum = c.length * (2 * ys.length + 1) := fun c => by
    induction c with
    | nil => simp
    | cons x c ih => rw [List.map_cons, List.sum_cons, ih, List.length_map, ckL_len, List.length_cons, Nat.add_mul]; omega
  rw [e, ckL_len]
theorem pk_mem {xs ys : List Int} {ms : List (Int × Int)} {s X Y : Int} (hs : 0 < s) (hx : s ∣ X) (hy : s ∣ Y) : pk xs ys ms s X Y ∈ pkL xs ys ms s := by
  unfold pk pkL
  by_cases c : ∃ p ∈ ms, X ≤ p.1 ∧ p.1 < X + s ∧ Y ≤ p.2 ∧ p.2 < Y + s
  · rw [if_pos c]
    obtain ⟨p, hp, a1, a2, a3, a4⟩ := c
    exact List.mem_append_left _ (List.mem_map.mpr ⟨p, hp, by rw [mul_at hs hx a1 a2, mul_at hs hy a3 a4]⟩)
  · rw [if_neg c]
    exact List.mem_append_right _ (List.mem_flatMap.mpr ⟨_, ck_mem hs hx, List.mem_map.mpr ⟨_, ck_mem hs hy, rfl⟩⟩)
/-- the cells of a square, plain so -/
def PlG (S : Sq) (xs ys : List Int) (ms : List (Int × Int)) : Prop := ∀ x y x' y', 0 ≤ x → x < 2 ^ S.level → 0 ≤ y → y < 2 ^ S.level → 0 ≤ x' → x' < 2 ^ S.level → 0 ≤ y' → y' < 2 ^ S.level →
  (x, y) ∉ ms → (x', y') ∉ ms → (∀ b ∈ xs, x < b ↔ x' < b) → (∀ b ∈ ys, y < b ↔ y' < b) → S.get x y = S.get x' y'
theorem Pl.g {S : Sq} {xs ys : List Int} {ms : List (Int × Int)} (h1 : 1 ≤ S.level) (h : Pl S.val xs ys ms) : PlG S (xs.map (· + S.half)) (ys.map (· + S.half)) (ms.map fun p => (p.1 + S.half, p.2 + S.half)) := by
  intro x y x' y' x0 x1 y0 y1 x0' x1' y0' y1' n n' bx bY
  have e2 := half_two h1
  have g : ∀ x y : Int, 0 ≤ x → x < 2 ^ S.level → 0 ≤ y → y < 2 ^ S.level → S.get x y = S.val (x - S.half) (y - S.half) := fun x y a b c d => by
    unfold Sq.val
    rw [if_pos (by omega), Int.sub_add_cancel, Int.sub_add_cancel]
  rw [g x y x0 x1 y0 y1, g x' y' x0' x1' y0' y1']
  refine h _ _ _ _ (fun z => n (List.mem_map.mpr ⟨_, z, by simp⟩)) (fun z => n' (List.mem_map.mpr ⟨_, z, by simp⟩)) (fun b hb => ?_) fun b hb => ?_
  · have := bx _ (List.mem_map.mpr ⟨b, hb, rfl⟩); omega
  · have := bY _ (List.mem_map.mpr ⟨b, hb, rfl⟩); omega
theorem SubAt.uniq {S T T' : Sq} {X Y X' Y' : Int} {xs ys : List Int} {ms : List (Int × Int)} (g : PlG S xs ys ms) (h : SubAt S T X Y) (h' : SubAt S T' X' Y') (el : T.level = T'.level) (e : pk xs ys ms (2 ^ T.level) X Y = pk xs ys ms (2 ^ T.level) X' Y') :
    T = T' ∧ ((X = X' ∧ Y = Y') ∨ (ck xs (2 ^ T.level) X = ck xs (2 ^ T.level) X' ∧ ck ys (2 ^ T.level) Y = ck ys (2 ^ T.level) Y')) := by
  have x1 := h.x1; have y1 := h.y1; have x1' := h'.x1; have y1' := h'.y1
  have x0 := h.x0; have y0 := h.y0; have x0' := h'.x0; have y0' := h'.y0
  have gt := h.gt; have gt' := h'.gt
  rw [← el] at x1' y1' gt'
  unfold pk at e
  by_cases c : ∃ p ∈ ms, X ≤ p.1 ∧ p.1 < X + 2 ^ T.level ∧ Y ≤ p.2 ∧ p.2 < Y + 2 ^ T.level
  · rw [if_pos c] at e
    split at e
    · have e' : (X, Y) = (X', Y') := by injection e
      obtain ⟨rfl, rfl⟩ := Prod.mk.inj e'
      exact ⟨sq_ext h.wf h'.wf el fun x y a b c d => by rw [gt x y a b c d, gt' x y a b c d], .inl ⟨rfl, rfl⟩⟩
    · cases e
  · rw [if_neg c] at e
    split at e
    · cases e
    · next c' =>
      have e' : (ck xs (2 ^ T.level) X, ck ys (2 ^ T.level) Y) = (ck xs (2 ^ T.level) X', ck ys (2 ^ T.level) Y') := by injection e
      obtain ⟨ex, ey⟩ := Prod.mk.inj e'
      refine ⟨sq_ext h.wf h'.wf el fun x y a0 a1 b0 b1 => ?_, .inr ⟨ex, ey⟩⟩
      rw [gt x y a0 a1 b0 b1, gt' x y a0 a1 b0 b1]
      exact g _ _ _ _ (by omega) (by omega) (by omega) (by omega) (by omega) (by omega) (by omega) (by omega) (fun z => c ⟨_, z, by dsimp only; omega⟩) (fun z => c' ⟨_, z, by dsimp only; omega⟩) (fun b hb => ck_same ex hb a0 a1) fun b hb => ck_same ey hb b0 b1
/-! #### the pairs of squares and parts of a box -/
def part4 (l r t b s X Y : Int) : List Int := [cL (l - X), cL (t - Y), cR (r - X) s - cL (l - X), cR (b - Y) s - cL (t - Y)]
/-- a square of that level and kind, with its part of the box -/
def IsP (S : Sq) (xs ys : List Int) (ms : List (Int × Int)) (l r t b : Int) (j : Nat) (κ : Sum (Int × Int) (Sum (Option Int) Int × Sum (Option Int) Int)) (x : Sq × List Int) : Prop :=
  ∃ X Y : Int, SubAt S x.1 X Y ∧ x.1.level = j ∧ pk xs ys ms (2 ^ j) X Y = κ ∧ cL (l - X) < cR (r - X) (2 ^ j) ∧ cL (t - Y) < cR (b - Y) (2 ^ j) ∧ x.2 = part4 l r t b (2 ^ j) X Y
theorem IsP.uniq {S : Sq} {xs ys : List Int} {ms : List (Int × Int)} {l r t b : Int} {j : Nat} {κ : Sum (Int × Int) (Sum (Option Int) Int × Sum (Option Int) Int)} {x x' : Sq × List Int} (g : PlG S xs ys ms) (hl : l ∈ xs) (hr : r ∈ xs) (ht : t ∈ ys) (hb : b ∈ ys)
    (h : IsP S xs ys ms l r t b j κ x) (h' : IsP S xs ys ms l r t b j κ x') : x = x' := by
  obtain ⟨X, Y, sa, e1, e2, n1, n2, e3⟩ := h
  obtain ⟨X', Y', sa', e1', e2', n1', n2', e3'⟩ := h'
  obtain ⟨a, c⟩ := SubAt.uniq g sa sa' (e1.trans e1'.symm) (by rw [e1]; exact e2.trans e2'.symm)
  rw [e1] at c
  refine Prod.ext a ?_
  rw [e3, e3']
  rcases c with ⟨rfl, rfl⟩ | ⟨c1, c2⟩
  · rfl
  · obtain ⟨p1, p2⟩ := ck_part c1 hl hr n1 n1'
    obtain ⟨p3, p4⟩ := ck_part c2 ht hb n2 n2'
    unfold part4
    rw [p1, p2, p3, p4]
open Classical in
noncomputable def pairsL (S : Sq) (xs ys : List Int) (ms : List (Int × Int)) (l r t b : Int) : List (Sq × List Int) :=
  (List.range (S.level + 1)).flatMap fun j => (pkL xs ys ms (2 ^ j)).filterMap fun κ => if h : ∃ x, IsP S xs ys ms l r t b j κ x then some (Classical.choose h) else none
theorem sum_lePl {α : Type} (f : α → Nat) (n : Nat) : ∀ l : List α, (∀ x ∈ l, f x ≤ n) → (l.map f).sum ≤ l.length * n
  | [], _ => by simp
  | x :: l, h => by
    have a := h x List.mem_cons_self
    have b := sum_lePl f n l fun y hy => h y (List.mem_cons_of_mem _ hy)
    rw [List.map_cons, List.sum_cons, List.length_cons, Nat.add_mul]
    omega
open Classical in
theorem pairsL_len (S : Sq) (xs ys : List Int) (ms : List (Int × Int)) (l r t b : Int) : (pairsL S xs ys ms l r t b).length ≤ (S.level + 1) * (ms.length + (2 * xs.length + 1) * (2 * ys.length + 1)) := by
  unfold pairsL
  rw [List.length_flatMap]
  have := sum_lePl (fun j => ((pkL xs ys ms (2 ^ j)).filterMap fun κ => if h : ∃ x, IsP S xs ys ms l r t b j κ x then some (Classical.choose h) else none).length) (ms.length + (2 * xs.length + 1) * (2 * ys.length + 1)) (List.range (S.level + 1)) fun j _ => by
    rw [← pkL_len xs ys ms (2 ^ j)]
    exact List.length_filterMap_le _ _
  rw [List.length_range] at this
  exact this
section
variable {S : Sq} {xs ys : List Int} {ms : List (Int × Int)} {l r t b : Int}
theorem pairs_mem (g : PlG S xs ys ms) (hl : l ∈ xs) (hr : r ∈ xs) (ht : t ∈ ys) (hb : b ∈ ys) {T : Sq} {X Y : Int} (h : SubAt S T X Y) (n1 : cL (l - X) < cR (r - X) (2 ^ T.level)) (n2 : cL (t - Y) < cR (b - Y) (2 ^ T.level)) : (T, part4 l r t b (2 ^ T.level) X Y) ∈ pairsL S xs ys ms l r t b := by
  have i : IsP S xs ys ms l r t b T.level (pk xs ys ms (2 ^ T.level) X Y) (T, part4 l r t b (2 ^ T.level) X Y) := ⟨X, Y, h, rfl, rfl, n1, n2, rfl⟩
  unfold pairsL
  refine List.mem_flatMap.mpr ⟨T.level, List.mem_range.mpr (by have := h.lv; omega), List.mem_filterMap.mpr ⟨_, pk_mem (Sq.two_pos _) h.dx h.dy, ?_⟩⟩
  have ex : ∃ x, IsP S xs ys ms l r t b T.level (pk xs ys ms (2 ^ T.level) X Y) x := ⟨_, i⟩
  rw [dif_pos ex]
  exact congrArg some (IsP.uniq g hl hr ht hb (Classical.choose_spec ex) i)
theorem pairs_of {x : Sq × List Int} (h : x ∈ pairsL S xs ys ms l r t b) : ∃ X Y : Int, SubAt S x.1 X Y ∧ x.2 = part4 l r t b (2 ^ x.1.level) X Y := by
  unfold pairsL at h
  obtain ⟨j, _, h⟩ := List.mem_flatMap.mp h
  obtain ⟨κ, _, h⟩ := List.mem_filterMap.mp h
  split at h
  · next ex =>
    have e := Option.some.inj h
    obtain ⟨X, Y, a, e1, _, _, _, e2⟩ := Classical.choose_spec ex
    rw [e] at a e1 e2
    exact ⟨X, Y, a, by rw [e1]; exact e2⟩
  · cases h
theorem cloP_pairs (g : PlG S xs ys ms) (hl : l ∈ xs) (hr : r ∈ xs) (ht : t ∈ ys) (hb : b ∈ ys) : CloP (pairsL S xs ys ms l r t b) := by
  intro A B C D u u' w h m k T hk n1 n2
  obtain ⟨X, Y, sa, e⟩ := pairs_of m
  have e' : [u, u', w, h] = part4 l r t b (2 ^ (Sq.node A B C D).level) X Y := e
  obtain ⟨sc, lT⟩ := sa.child k T hk
  have e2p : (2 : Int) ^ (Sq.node A B C D).level = 2 * 2 ^ A.level := Sq.two_succ _
  rw [e2p] at e'
  unfold part4 at e'
  simp only [List.cons.injEq, and_true] at e'
  obtain ⟨rfl, rfl, rfl, rfl⟩ := e'
  have hp := Sq.two_pos A.level
  have hk4 : k < 4 := (List.getElem?_eq_some_iff.mp hk).1
  have kx : ((k : Nat) : Int) % 2 = 0 ∨ ((k : Nat) : Int) % 2 = 1 := by omega
  have ky : ((k : Nat) : Int) / 2 = 0 ∨ ((k : Nat) : Int) / 2 = 1 := by omega
  have one : ∀ {l r X k : Int}, (k = 0 ∨ k = 1) → cL (cL (l - X) - k * 2 ^ A.level) = cL (l - (X + k * 2 ^ A.level)) ∧ cR (cL (l - X) - k * 2 ^ A.level + (cR (r - X) (2 * 2 ^ A.level) - cL (l - X))) (2 ^ A.level) = cR (r - (X + k * 2 ^ A.level)) (2 ^ A.level) := fun {l r X k} hk => by
    rcases hk with rfl | rfl
    · rw [Int.zero_mul]
      generalize (2 : Int) ^ A.level = s at *
      refine ⟨by unfold cL; split <;> split <;> omega, ?_⟩
      have e : cL (l - X) - 0 + (cR (r - X) (2 * s) - cL (l - X)) = cR (r - X) (2 * s) := by omega
      rw [e]
      unfold cR
      split <;> split <;> (try split) <;> omega
    · rw [Int.one_mul]
      generalize (2 : Int) ^ A.level = s at *
      refine ⟨by unfold cL; split <;> split <;> omega, ?_⟩
      have e : cL (l - X) - s + (cR (r - X) (2 * s) - cL (l - X)) = cR (r - X) (2 * s) - s := by omega
      rw [e]
      unfold cR
      split <;> split <;> (try split) <;> omega
  obtain ⟨p1, p2⟩ := one (l := l) (r := r) (X := X) kx
  obtain ⟨p3, p4⟩ := one (l := t) (r := b) (X := Y) ky
  rw [p1, p2] at n1 ⊢
  rw [p3, p4] at n2 ⊢
  have z := pairs_mem g hl hr ht hb sc (by rw [lT]; exact n1) (by rw [lT]; exact n2)
  rw [lT] at z
  exact z
theorem pairs_self (g : PlG S xs ys ms) (wS : S.wf) (hl : l ∈ xs) (hr : r ∈ xs) (ht : t ∈ ys) (hb : b ∈ ys) (n1 : cL l < cR r (2 ^ S.level)) (n2 : cL t < cR b (2 ^ S.level)) : (S, [cL l, cL t, cR r (2 ^ S.level) - cL l, cR b (2 ^ S.level) - cL t]) ∈ pairsL S xs ys ms l r t b := by
  have z := pairs_mem g hl hr ht hb (SubAt.self wS) (by rw [Int.sub_zero, Int.sub_zero]; exact n1) (by rw [Int.sub_zero, Int.sub_zero]; exact n2)
  unfold part4 at z
  simp only [Int.sub_zero] at z
  exact z
end
/-- the pairs of a field that is plain, as they are wanted -/
theorem plain_pairs {S : Sq} (wS : S.wf) (h1 : 1 ≤ S.level) {xs ys : List Int} {ms : List (Int × Int)} (p : Pl S.val xs ys ms) {l r t b : Int} (hl : l ∈ xs) (hr : r ∈ xs) (ht : t ∈ ys) (hb : b ∈ ys) {N : Nat} (hN : ms.length + (2 * xs.length + 1) * (2 * ys.length + 1) ≤ N) :
    ∃ L, CloP L ∧ L.length ≤ (S.level + 1) * N ∧ (cL (l + S.half) < cR (r + S.half) (2 ^ S.level) → cL (t + S.half) < cR (b + S.half) (2 ^ S.level) → (S, [cL (l + S.half), cL (t + S.half), cR (r + S.half) (2 ^ S.level) - cL (l + S.half), cR (b + S.half) (2 ^ S.level) - cL (t + S.half)]) ∈ L) := by
  have g := p.g h1
  have m : ∀ {z : Int} {zs : List Int}, z ∈ zs → z + S.half ∈ zs.map (· + S.half) := fun h => List.mem_map.mpr ⟨_, h, rfl⟩
  refine ⟨pairsL S _ _ _ (l + S.half) (r + S.half) (t + S.half) (b + S.half), cloP_pairs g (m hl) (m hr) (m ht) (m hb), Nat.le_trans (pairsL_len _ _ _ _ _ _ _ _) ?_, pairs_self g wS (m hl) (m hr) (m ht) (m hb)⟩
  rw [List.length_map, List.length_map, List.length_map]
  exact Nat.mul_le_mul_left _ hN
end JF

/-! ### boxes filled -/
namespace JF
open PySem PySem.Spec PyProof.Rows L2 NdefX LamX
/-- widened so often -/
def wideN : Nat → Sq → Sq
  | 0, S => S
  | k + 1, S => (wideN k S).wide
theorem level_wideN {S : Sq} (l : 1 ≤ S.level) : ∀ k, (wideN k S).level = S.level + k
  | 0 => rfl
  | k + 1 => by
    have h := level_wideN l k
    show (wideN k S).wide.level = _
    rw [Sq.level_wide (by omega), h]
    omega
/-- what is painted in a square about the middle -/
theorem PB.val {hi ho : Int → Int} {S R : Sq} {l t w h : Int} (p : PB hi ho (l + S.half) (t + S.half) w h S R) (h1 : 1 ≤ S.level) (u v : Int) :
    R.val u v = if -S.half ≤ u ∧ u < S.half ∧ -S.half ≤ v ∧ v < S.half then (if l ≤ u ∧ u < l + w ∧ t ≤ v ∧ v < t + h then hi (S.val u v) else ho (S.val u v)) else 0 := by
  have hh : R.half = S.half := by unfold Sq.half; rw [p.lv]
  have h2 := half_two h1
  have g := p.gt
  rw [h2] at g
  unfold Sq.val
  rw [hh]
  generalize S.half = s at *
  by_cases z : -s ≤ u ∧ u < s ∧ -s ≤ v ∧ v < s
  · rw [if_pos z, if_pos z, if_pos z, g (u + s) (v + s) (by omega) (by omega) (by omega) (by omega)]
    by_cases y : l ≤ u ∧ u < l + w ∧ t ≤ v ∧ v < t + h
    · rw [if_pos y, if_pos (by omega)]
    · rw [if_neg y, if_neg (by omega)]
  · rw [if_neg z, if_neg z]
theorem none_ofW2 {H H' : Hp} (s : Same H H') {b : Addr} (h : H' b = none) : H b = none := none_ofW s h
theorem rd_callC {X : Cx} {k : Nat} {p : Str × Option Str} {ps : List Str} {E : XK} {t : TA} {σ : L2.St} {H : Hp} {Q : VK} (h : t σ H fun vs H1 => ∃ sp, (∀ base', X.Ok → (∀ cl fr js, Caps X cl fr js → CellsB base' cl fr (js.map (slotAt σ))) → Good X.prog X.w X.K X.mg base' CX0 k p ps sp) ∧ sp vs H1 Q E) : tCallC X k p ps E t σ H Q := h
theorem nameF {H : Hp} {f c' : Addr} {F : NF} (h1 : H f = some (FnO f F)) (h2 : H c' = some (CodeO c' F.qual)) (e : F.c = c') : ∃ F', F' = F ∧ H f = some (FnO f F') ∧ H F'.c = some (CodeO F'.c F'.qual) := ⟨F, rfl, h1, by rw [e]; exact h2⟩
/-! #### frames -/
theorem GAt.tbl_out {C : Addr} {H : Hp} {a : GA} {rows : List (Int × Addr)} {q : List Sq} (G : GAt C H a rows q) {b : Addr} {ps : Array Value} (h : H b = some (.tbl ps)) : b ∉ a.muts rows := by
  obtain ⟨tups, mk, spt, D⟩ := G.da
  intro z
  unfold GA.muts GA.m5 at z
  simp only [List.cons_append, List.nil_append, List.mem_cons, List.mem_map] at z
  rcases z with rfl | rfl | rfl | rfl | rfl | rfl | ⟨sa, hm, rfl⟩
  · rw [D.hn] at h; cases h
  · rw [D.hm] at h; cases h
  · rw [D.hl] at h; cases h
  · rw [D.hv] at h; cases h
  · rw [D.hs] at h; cases h
  · rw [G.pl] at h; cases h
  · obtain ⟨ns, e, _⟩ := G.ro sa.1 sa.2 hm
    rw [e] at h; cases h
/-- a step of a grove in which tables of code objects may grow -/
structure FStep (C : Addr) (H : Hp) (a : GA) (rows : List (Int × Addr)) (q : List Sq) (H' : Hp) (rows' : List (Int × Addr)) (q' : List Sq) : Prop where
  gat : GAt C H' a rows' q'
  pre : q <+: q'
  fr : ∀ b o, H b = some o → b ∉ a.muts rows → (∀ ps, o ≠ .tbl ps) → H' b = some o
  new : ∀ b ∈ a.muts rows', b ∈ a.muts rows ∨ H b = none
  nn : ∀ b, H b ≠ none → b ∉ a.muts rows → H' b ≠ none
section
variable {C : Addr} {H H1 H2 : Hp} {a : GA} {rows r1 r2 : List (Int × Addr)} {q q1 q2 : List Sq}
theorem FStep.of (x : GStep C H a rows q H1 r1 q1) : FStep C H a rows q H1 r1 q1 := ⟨x.gat, x.pre, fun b o e n _ => x.fr b o e n, x.new, fun b h n => by
  cases e : H b with
  | none => exact absurd e h
  | some o => rw [x.fr b o e n]; simp⟩
theorem FStep.trans (x : FStep C H a rows q H1 r1 q1) (y : FStep C H1 a r1 q1 H2 r2 q2) : FStep C H a rows q H2 r2 q2 := by
  have out : ∀ b, H b ≠ none → b ∉ a.muts rows → b ∉ a.muts r1 := fun b h n z => (x.new b z).elim n h
  refine ⟨y.gat, x.pre.trans y.pre, fun b o e n t => y.fr b o (x.fr b o e n t) (out b (by rw [e]; simp) n) t, fun b h => ?_, fun b h n => y.nn b (x.nn b h n) (out b h n)⟩
  rcases y.new b h with z | z
  · exact x.new b z
  · by_cases hb : b ∈ a.muts rows
    · exact .inl hb
    · right
      cases e : H b with
      | none => rfl
      | some o => exact absurd z (x.nn b (by rw [e]; simp) hb)
theorem FStep.ext (G : GAt C H1 a rows q) (x : ExtN H H1) (n : ∀ b, H1 b = none → H b = none) : FStep C H a rows q H1 rows q := ⟨G, List.prefix_refl _, fun b o e _ t => x b o e t, fun _ h => .inl h, fun b h _ z => h (n b z)⟩
theorem FStep.own (x : FStep C H a rows q H1 r1 q1) {b : Addr} {o : HO} (h : H b = some o) (n : b ∉ a.muts rows) (t : ∀ ps, o ≠ .tbl ps) : H1 b = some o ∧ b ∉ a.muts r1 :=
  ⟨x.fr b o h n t, fun z => (x.new b z).elim n fun z => by rw [h] at z; cases z⟩
theorem FStep.tup (x : FStep C H a rows q H1 r1 q1) (G : GAt C H a rows q) : Tup H H1 := fun b ys e => x.fr b _ e (G.tup_out e) fun ps z => by cases z
end
theorem tabs_fr {T : List NTab} {H H' : Hp} (t : TabsN T H) (k : ∀ b o, H b = some o → ((∃ ps, o = .tbl ps) ∨ ∃ φ, o = .ext φ) → H' b = some o) : TabsN T H' := fun p hp => by
  obtain ⟨ps, h1, h2, h3⟩ := t p hp
  refine ⟨ps, k _ _ h1 (.inl ⟨_, rfl⟩), h2, fun pos cv hc => ?_⟩
  obtain ⟨c, e1, e2⟩ := h3 pos cv hc
  exact ⟨c, e1, k _ _ e2 (.inr ⟨_, rfl⟩)⟩
theorem tabs_step {T : List NTab} {C : Addr} {H H1 : Hp} {a : GA} {rows r1 : List (Int × Addr)} {q q1 : List Sq} (t : TabsN T H) (G : GAt C H a rows q) (x : GStep C H a rows q H1 r1 q1) : TabsN T H1 :=
  tabs_fr t fun b o e h => x.fr b o e (by
    rcases h with ⟨ps, rfl⟩ | ⟨φ, rfl⟩
    · exact G.tbl_out e
    · exact G.ext_out e)
theorem tabs_same {T : List NTab} {H H1 : Hp} (t : TabsN T H) (s : Same H H1) : TabsN T H1 := tabs_fr t fun b o e _ => s b o e
theorem GAt.extN {C : Addr} {H H1 : Hp} {a : GA} {rows : List (Int × Addr)} {q : List Sq} (G : GAt C H a rows q) (x : ExtN H H1) : GAt C H1 a rows q :=
  G.keep fun b o e z => x b o e fun ps y => by
    subst y
    rcases z with z | z
    · exact z
    · exact G.tbl_out e z
section
variable {P : Program} {w : World} {K : PySem.W.Frag} {mg : Str → Option Value} {base : Heap}
def sp_inside (C : Addr) (ws : List (Option V)) : Sp := fun vs H Q E => ∃ (a : GA) (st : Int), ws = [some (.ref a.g), some (.int st)] ∧ 0 ≤ st ∧ st ≤ 7 ∧ spD C a (fun S => Sq.even S.level st) vs H Q E
theorem nok_inside (T : Env fa fn K mg) (f : Addr) (q : Str) (cl : List (Str × Addr)) (c : Addr) : NOk P w K mg base CX0 9 f (NF.of st_filled_inside "inside" q cl c) ["square"] ["grove", "state"] (sp_inside (CG K)) := by
  have G_Grove_level_of := ok_level_of (P := P) (w := w) (base := base) T
  have G_Grove_solid := ok_solid (P := P) (w := w) (base := base) T
  refine nok_of (N := ["square", "grove", "state"]) sc_filled_inside (fun _ _ _ us hl => match us, hl with | [_], _ => rfl) (fun ws vs H Q E h => ?_) (fun A outer s H vs ws Q E hr hf hc hl h => ?_)
  · obtain ⟨a, st, _, _, _, rows, q, n, S, rfl, _⟩ := h; rfl
  · obtain ⟨a, st, rfl, h0, h7, rows, q, n, S, rfl, G, hn, l48, hq, k⟩ := h
    refine ⟨_, (pss_one (ps_ret (pe_mgK K rfl (pv 1) (T.cls 13) (T.meth 38) G_Grove_solid (hr.mono (by decide)) (pa_cons (pe_mgK K rfl (pv 1) (T.cls 13) (T.meth 25) G_Grove_level_of (hr.mono (by decide)) (pa_cons (pv 0) pa_nil)) (pa_cons (pv 2) pa_nil))))), ?_⟩
    walk_at "rd"
    refine rd_methR G.ob (by rfl) ?_
    walk_at "rd"
    refine rd_methR G.ob (by rfl) ?_
    walk_at "rd"
    refine ⟨a, rows, q, n, S, rfl, G, hn, by omega, ?_⟩
    walk_at "rd"
    refine ⟨a, rows, q, S.level, st, rfl, G, l48, h0, h7, by omega, fun H' r' q' m st' len hm => ?_⟩
    exact k H' r' q' m st' (by omega) hm
theorem nok_outside (T : Env fa fn K mg) (a : GA) (f : Addr) (q : Str) (cl : List (Str × Addr)) (c : Addr) : NOk P w K mg base CX0 9 f (NF.of st_filled_outside "outside" q cl c) ["square"] [] (fun _ => spD (CG K) a fun S => S) := by
  refine nok_of (N := ["square"]) sc_filled_outside (fun _ _ _ us hl => match us, hl with | [_], _ => rfl) (fun ws vs H Q E h => ?_) (fun A outer s H vs ws Q E hr hf hc hl h => ?_)
  · obtain ⟨rows, q, n, S, rfl, _⟩ := h; rfl
  · obtain ⟨rows, q, n, S, rfl, G, hn, l48, hq, k⟩ := h
    obtain rfl : ws = [] := List.length_eq_zero_iff.mp hl
    refine ⟨_, (pss_one (ps_ret (pv 0))), ?_⟩
    walk_at "rd"
    exact k H rows q n (GStep.refl G) (by omega) hn
/-- lies in the ground, or is empty -/
def BoxG (l t w h : Int) : Prop := 0 ≤ w ∧ 0 ≤ h ∧ (w = 0 ∨ h = 0 ∨ (-1099511627776 ≤ l ∧ l + w ≤ 1099511627776 ∧ -1099511627776 ≤ t ∧ t + h ≤ 1099511627776))
/-- few unlike squares with their parts of the box, however wide the field is made -/
def FewP (S : Sq) (l t w' h : Int) (N : Nat) : Prop := ∀ W : Sq, W.wf → 1 ≤ W.level → W.level ≤ 41 → (∀ u v, W.val u v = S.val u v) → ∃ L, CloP L ∧ L.length ≤ (W.level + 1) * N ∧
  (cL (l + W.half) < cR (l + w' + W.half) (2 ^ W.level) → cL (t + W.half) < cR (t + h + W.half) (2 ^ W.level) → (W, [cL (l + W.half), cL (t + W.half), cR (l + w' + W.half) (2 ^ W.level) - cL (l + W.half), cR (t + h + W.half) (2 ^ W.level) - cL (t + W.half)]) ∈ L)
def sp_filledG (K : PySem.W.Frag) : Sp := fun vs H Q _ => ∃ (a : GA) (rows : List (Int × Addr)) (q : List Sq) (n : Nat) (S : Sq) (pb : Addr) (l t w' h st : Int) (N : Nat), vs = [.ref a.g, .int (n : Int), .ref pb, .int st] ∧ GAt (CG K) H a rows q ∧ q[n]? = some S ∧ 1 ≤ S.level ∧ S.level ≤ 41 ∧ S.Least ∧ BoxT H pb l t w' h ∧ BoxG l t w' h ∧ 0 ≤ st ∧ st ≤ 7 ∧
  TabsN (tabsN K) H ∧ FewP S l t w' h N ∧ q.length + 8820 * N + 20000 < 15000000 ∧
  ∀ H' rows' q' (m : Nat) T, FStep (CG K) H a rows q H' rows' q' → TabsN (tabsN K) H' → q'.length ≤ q.length + 8820 * N + 6000 → q'[m]? = some T → 1 ≤ T.level → T.level ≤ 41 → T.Least →
    (∀ u v, T.val u v = if l ≤ u ∧ u < l + w' ∧ t ≤ v ∧ v < t + h then st else S.val u v) → Q (.int (m : Int)) H'
def sp_filled (K : PySem.W.Frag) : Sp := fun vs H Q _ => ∃ (a : GA) (rows : List (Int × Addr)) (q : List Sq) (n : Nat) (S : Sq) (pb : Addr) (l t w' h st : Int) (xs ys : List Int) (ms : List (Int × Int)) (N : Nat), vs = [.ref a.g, .int (n : Int), .ref pb, .int st] ∧ GAt (CG K) H a rows q ∧ q[n]? = some S ∧ 1 ≤ S.level ∧ S.level ≤ 41 ∧ S.Least ∧ BoxT H pb l t w' h ∧ BoxG l t w' h ∧ 0 ≤ st ∧ st ≤ 7 ∧
  TabsN (tabsN K) H ∧ Pl S.val xs ys ms ∧ (l ∈ xs ∧ l + w' ∈ xs ∧ t ∈ ys ∧ t + h ∈ ys) ∧ ms.length + (2 * xs.length + 1) * (2 * ys.length + 1) ≤ N ∧ q.length + 8820 * N + 20000 < 15000000 ∧
  ∀ H' rows' q' (m : Nat) T, FStep (CG K) H a rows q H' rows' q' → TabsN (tabsN K) H' → q'.length ≤ q.length + 8820 * N + 6000 → q'[m]? = some T → 1 ≤ T.level → T.level ≤ 41 → T.Least →
    (∀ u v, T.val u v = if l ≤ u ∧ u < l + w' ∧ t ≤ v ∧ v < t + h then st else S.val u v) → Q (.int (m : Int)) H'
theorem triv_V (f : Addr) (F : NF) : FnV P w K mg base CX0 9 f F (fun _ _ _ _ => False) := fun _ _ _ _ _ _ _ _ _ _ _ _ _ h => h.elim
set_option maxHeartbeats 16000000 in
theorem ok_filledG (T : Env fa fn K mg) (TB : ∀ p ∈ tfs, TabB base mg (He.codeOf K p) (He.tabOf K (He.codeOf K p))) : Good P w K mg base CX0 60 ("filled", none) ["grove", "field", "box", "state"] (sp_filledG K) := by
  have G_refuse_box := ok_refuse (P := P) (w := w) (base := base) T
  have G_lies_within := ok_lies (P := P) (w := w) (base := base) T
  have G_Grove_leaf := ok_leaf (P := P) (w := w) (base := base) T
  have G_Grove_level_of := ok_level_of (P := P) (w := w) (base := base) T
  have G_widened := ok_widened (P := P) (w := w) (base := base) T
  have G_trimmed := ok_trimmed (P := P) (w := w) (base := base) T
  have G_from_corner := ok_corner (P := P) (w := w) (base := base) T
  have G_painted := (no_painted (P := P) (w := w) (base := base) T (triv_V 0 (NF.of (top 0) "" "" [] 0)) (triv_V 0 (NF.of (top 0) "" "" [] 0))).mono (show 1 ≤ 56 by decide)
  refine good_mkC T 28 (d := d_filled) (N := ["grove", "field", "box", "state", "empty", "inside", "outside"]) (ps := ["grove", "field", "box", "state"]) rfl rfl sc_filled (fun _ _ _ _ _ _ us hl => match us, hl with | [_, _, _, _], _ => rfl) (fun vs H Q E h => ?_) (fun f A outer σ0 H vs Q E hr h => ?_)
  · obtain ⟨a, rows, q, n, S, pb, l, t, w', h, st, N, rfl, _⟩ := h; rfl
  · obtain ⟨a, rows, q, n, S, pb, l, t, w', h, st, N, rfl, G, hn, l1, l41, hL, hb, ⟨w0, h0, hg⟩, st0, st7, tabs, hpl, hq, k⟩ := h
    have hb' : H pb = some (.tup [.int l, .int t, .int w', .int h]) := hb
    refine ⟨_, (pss_cons (ps_expr (pe_cgK K rfl G_refuse_box (hr.mono (by decide)) (T.glo 31) (pa_cons (pv 2) pa_nil)))
      (pss_cons (ps_set (i := 4) sc_filled.nd rfl (Or.inl rfl) (L2.pe_or (pe_cmpR op_eq (pe_ix (ix_tupK K rfl) (pv 2) pe_int (fun _ _ => rfl)) pe_int (nomark _)) (pe_one (pe_cmpR op_eq (pe_ix (ix_tupK K rfl) (pv 2) pe_int (fun _ _ => rfl)) pe_int (nomark _)))))
      (pss_cons (ps_if (PW.pt (pw_and (pt_not (pt_val (pv 4))) (pw_and1 (pt_not (pt_val (pe_cgK K rfl G_lies_within (hr.mono (by decide)) (T.glo 32) (pa_cons (pv 2) (pa_cons (pe_gint (T.int 33) rfl) pa_nil)))))))) pss_never pss_nil)
      (pss_cons (ps_expr (pe_mgK K rfl (pv 0) (T.cls 13) (T.meth 34) G_Grove_leaf (hr.mono (by decide)) (pa_cons (pv 3) pa_nil)))
      (pss_cons (ps_if (pt_val (pv 4)) (pss_one (ps_ret (pv 1))) pss_nil)
      (pss_cons (ps_ndefMS (st := st_filled_inside) (T := tabsN K) (nm := nmT) (i := 5) rfl (TB _ (List.mem_of_getElem? (i := 0) rfl)) rfl (tt_mem 0 rfl) (by kernel_rfl) tt_u (ndef_free (sc := defScope st_filled) (nsc := C8.fnScope st_filled_inside) (fr := ["grove", "state"]) (by decide +kernel)) rfl rfl rfl sc_filled.nd rfl (Or.inl rfl) (Or.inl rfl))
      (pss_cons (ps_ndefMS (st := st_filled_outside) (T := tabsN K) (nm := nmT) (i := 6) rfl (TB _ (List.mem_of_getElem? (i := 0) rfl)) rfl (tt_mem 0 rfl) (by kernel_rfl) tt_u (ndef_free (sc := defScope st_filled) (nsc := C8.fnScope st_filled_outside) (fr := []) (by decide +kernel)) rfl rfl rfl sc_filled.nd rfl (Or.inl rfl) (Or.inl rfl))
      (pss_cons (ps_while PassesOwn.never (pt_not (pt_val (pe_cgK K rfl G_lies_within (hr.mono (by decide)) (T.glo 32) (pa_cons (pv 2) (pa_cons (pe_op op_fdivW (pe_op op_shl pe_int (pe_mgK K rfl (pv 0) (T.cls 13) (T.meth 25) G_Grove_level_of (hr.mono (by decide)) (pa_cons (pv 1) pa_nil))) pe_int) pa_nil))))) (pss_one (ps_set (i := 1) sc_filled.nd rfl (Or.inl rfl) (pe_cgK K rfl G_widened (hr.mono (by decide)) (T.glo 35) (pa_cons (pv 0) (pa_cons (pv 1) pa_nil))))))
      (pss_one (ps_ret (pe_cgK K rfl G_trimmed (hr.mono (by decide)) (T.glo 36) (pa_cons (pv 0) (pa_cons (pe_cgC G_painted (hr.mono (by decide)) (fun _ => rfl) (T.glo 29) (pa_cons (pv 0) (pa_cons (pv 1) (pa_cons (pe_cgK K rfl G_from_corner (hr.mono (by decide)) (T.glo 37) (pa_cons (pv 0) (pa_cons (pv 1) (pa_cons (pv 2) pa_nil)))) (pa_cons (pv 5) (pa_cons (pv 6) (pa_cons (pe_nnewK P w rfl rfl) pa_nil))))))) pa_nil))))))))))))), ?_⟩
    walk_at "rhi"
    refine ⟨pb, l, t, w', h, rfl, hb, w0, h0, ?_⟩
    walk_at "rd"
    by_cases c1 : w' = 0
    · rw [decide_eq_true c1]
      walk_at "rd"
      refine rd_methR G.ob (by rfl) ?_
      walk_at "rd"
      refine ⟨a, rows, q, st, rfl, G, st0, st7, by omega, fun H1 q1 ml G1 p1 ll1 e1 fr1 => ?_⟩
      have S1 := (GStep.refl G).m5 G1 p1 fr1
      walk_at "rd"
      exact k H1 rows q1 n S (FStep.of S1) (tabs_step tabs G S1) (by omega) (pre_get p1 hn) l1 l41 hL fun u v => by rw [if_neg (by omega)]
    rw [decide_eq_false c1]
    walk_at "rd"
    by_cases c2 : h = 0
    · rw [decide_eq_true c2]
      walk_at "rd"
      refine rd_methR G.ob (by rfl) ?_
      walk_at "rd"
      refine ⟨a, rows, q, st, rfl, G, st0, st7, by omega, fun H1 q1 ml G1 p1 ll1 e1 fr1 => ?_⟩
      have S1 := (GStep.refl G).m5 G1 p1 fr1
      walk_at "rd"
      exact k H1 rows q1 n S (FStep.of S1) (tabs_step tabs G S1) (by omega) (pre_get p1 hn) l1 l41 hL fun u v => by rw [if_neg (by omega)]
    rw [decide_eq_false c2]
    obtain ⟨g1, g2, g3, g4⟩ : -1099511627776 ≤ l ∧ l + w' ≤ 1099511627776 ∧ -1099511627776 ≤ t ∧ t + h ≤ 1099511627776 := by
      rcases hg with hg | hg | hg
      · exact absurd hg c1
      · exact absurd hg c2
      · exact hg
    walk_at "rd"
    refine ⟨pb, l, t, w', h, _, rfl, hb, ?_⟩
    rw [decide_eq_true (by omega)]
    walk_at "rd"
    refine rd_methR G.ob (by rfl) ?_
    walk_at "rd"
    refine ⟨a, rows, q, st, rfl, G, st0, st7, by omega, fun H1 q1 ml G1 p1 ll1 e1 fr1 => ?_⟩
    have S1 := (GStep.refl G).m5 G1 p1 fr1
    have t1 := tabs_step tabs G S1
    have hb1 : BoxT H1 pb l t w' h := (S1.tup G) _ _ hb
    walk_at "rd"
    refine ⟨t1, fun fi ci H2 ext2 n2 t2 nfi hfi hci => ?_⟩
    obtain ⟨Fi, eFi, hfi, hci⟩ := nameF hfi hci rfl
    have G2 := G1.extN ext2
    have F2 : FStep (CG K) H1 a rows q1 H2 rows q1 := FStep.ext G2 ext2 n2
    have hb2 : BoxT H2 pb l t w' h := ext2 _ _ hb1 fun ps z => by cases z
    walk_at "rd"
    refine ⟨t2, fun fo co H3 ext3 n3 t3 nfo hfo hco => ?_⟩
    obtain ⟨Fo, eFo, hfo, hco⟩ := nameF hfo hco rfl
    have G3 := G2.extN ext3
    have F3 : FStep (CG K) H2 a rows q1 H3 rows q1 := FStep.ext G3 ext3 n3
    have hb3 : BoxT H3 pb l t w' h := ext3 _ _ hb2 fun ps z => by cases z
    have hfi3 := ext3 _ _ hfi fnO_ne
    have hci3 := ext3 _ _ hci codeO_ne
    have F13 : FStep (CG K) H a rows q H3 rows q1 := ((FStep.of S1).trans F2).trans F3
    walk_at "rd"
    refine while_m (fun m σ H' => ∃ (r2 : List (Int × Addr)) (q2 : List Sq) (n2 : Nat) (W : Sq), σ = [some (.ref a.g), some (.int (n2 : Int)), some (.ref pb), some (.int st), some (.bl false), some (.ref fi), some (.ref fo)] ∧ GStep (CG K) H3 a rows q1 H' r2 q2 ∧ q2[n2]? = some W ∧
      m + W.level = 41 ∧ 1 ≤ W.level ∧ (∀ u v, W.val u v = S.val u v) ∧ q2.length ≤ q.length + 1 + 60 * W.level ∧ ∃ k, W = wideN k S) (41 - S.level) ⟨rows, q1, n, S, rfl, GStep.refl G3, pre_get p1 hn, by omega, l1, fun _ _ => rfl, by omega, 0, rfl⟩ ?_
    rintro m σ H4 ⟨r2, q2, n2, W, rfl, S2, hn2, hm, hW1, hval, hq2, kk, hkk⟩
    have G4 := S2.gat
    have wW := G4.wf _ (List.mem_of_getElem? hn2)
    have hp : 0 < W.half := Sq.two_pos _
    have h64 := (pow64' (i := W.level - 1) (by omega)).2
    have h64' : W.half < 2 ^ 64 := h64
    have hb4 : BoxT H4 pb l t w' h := (S2.tup G3) _ _ hb3
    have e2 := half_two hW1
    walk_at "rd"
    refine rd_methR G4.ob (by rfl) ?_
    walk_at "rd"
    refine ⟨a, r2, q2, n2, W, rfl, G4, hn2, by omega, ?_⟩
    walk_at "rd"
    refine rd_I (by refine ⟨by omega, by omega, by decide⟩) ?_
    rw [shl_ok]
    walk_at "rd"
    rw [half_shl hW1]
    refine ⟨pb, l, t, w', h, W.half, rfl, hb4, ?_⟩
    walk_at "rd"
    refine ite_nd (fun hin => ?_) (fun hin => ?_)
    · have hlt : W.level ≤ 40 := by
        apply Decidable.byContradiction
        intro z
        have e : W.level = 41 := by omega
        have eh : W.half = 1099511627776 := by unfold Sq.half; rw [e]; decide
        exact hin (by rw [eh]; omega)
      refine ⟨fun σ' H' => ∃ m', m' < m ∧ _, fun _ _ h => h, ?_⟩
      walk_at "rd"
      refine ⟨a, r2, q2, n2, W, rfl, G4, hn2, hW1, by omega, by omega, fun H5 r5 q5 m5 S5 l5 e5 => ?_⟩
      walk_at "rd"
      have lw := Sq.level_wide hW1
      exact ⟨m - 1, by omega, r5, q5, m5, W.wide, rfl, S2.trans S5, e5, by omega, by omega, fun u v => (Sq.val_wide wW hW1 u v).trans (hval u v), by omega, kk + 1, by rw [hkk]; rfl⟩
    · obtain ⟨b1, b2, b3, b4⟩ := hin
      have ew := level_wideN l1 kk
      rw [← hkk] at ew
      obtain ⟨PL, cloP, lenP, inP⟩ := hpl W wW hW1 (by omega) hval
      have lenP' : PL.length ≤ 42 * N := Nat.le_trans lenP (Nat.mul_le_mul_right _ (by omega))
      rw [show l + w' + W.half = l + W.half + w' by omega, show t + h + W.half = t + W.half + h by omega] at inP
      have t4 := tabs_step t3 G3 S2
      walk_at "rd"
      refine rd_callC ?_
      walk_at "rd"
      refine ⟨a, r2, q2, n2, W, pb, l, t, w', h, rfl, G4, hn2, hW1, by omega, by omega, hb4, fun p' hp' => ?_⟩
      have s5 := same_upd (o := .tup [V.int (l + W.half), V.int (t + W.half), V.int w', V.int h]) hp'
      have B5 : BoxT (upd H4 p' (.tup [V.int (l + W.half), V.int (t + W.half), V.int w', V.int h])) p' (l + W.half) (t + W.half) w' h := upd_same
      generalize upd H4 p' (.tup [V.int (l + W.half), V.int (t + W.half), V.int w', V.int h]) = H5 at *
      walk_at "rd"
      intro pk H6 hpk nd6 hs6
      have s6 : Same H5 H6 := fun b o e => by rw [hs6 b (ne_of_none e hpk)]; exact e
      have s46 := s5.trans s6
      have G6 := G4.same s46
      have out6 : pk ∉ a.muts r2 := (G4.same s5).new_out hpk
      have own4 : ∀ {b : Addr} {φ : Heap → Prop}, H3 b = some (.ext φ) → H6 b = some (.ext φ) ∧ b ≠ pk := fun {b φ} e => by
        have e5 := s5 _ _ ((S2.own e (G3.ext_out e)).1)
        exact ⟨s6 _ _ e5, ne_of_none e5 hpk⟩
      walk_at "rd"
      refine ⟨sp_painted P w K 45 a (fun _ => st) (fun s => s) fi Fi fo Fo, fun base' hok hcb => ?_, ?_⟩
      · rw [eFi, eFo]
        refine ok_painted (base := base') T (Deed.even st0 st7) Deed.id ?_ ?_ 45
        · refine FnV.imp (fnV_of (nok_inside (P := P) (w := w) (base := base') T fi _ _ ci) (hcb _ _ [0, 3] (Caps.made hok (ndef_free (sc := defScope st_filled) (nsc := C8.fnScope st_filled_inside) (fr := ["grove", "state"]) (by decide +kernel)) (ndef_fr (sc := defScope st_filled) (nsc := C8.fnScope st_filled_inside) (fr := ["grove", "state"]) (by decide +kernel)) rfl))) fun vs H Q E h => ⟨a, st, rfl, st0, st7, h⟩
        · exact fnV_of (nok_outside (P := P) (w := w) (base := base') T a fo _ _ co) (hcb _ _ [] (Caps.made hok (ndef_free (sc := defScope st_filled) (nsc := C8.fnScope st_filled_outside) (fr := []) (by decide +kernel)) (ndef_fr (sc := defScope st_filled) (nsc := C8.fnScope st_filled_outside) (fr := []) (by decide +kernel)) rfl))
      refine ⟨r2, q2, n2, W, p', _, _, _, _, pk, [], PL, rfl, G6, hn2, by omega, by omega, s6 _ _ B5, ⟨(own4 hfi3).1, (own4 hci3).1, (own4 hfi3).2, (own4 hci3).2⟩, ⟨(own4 hfo).1, (own4 hco).1, (own4 hfo).2, (own4 hco).2⟩, nd6, out6, KB.nil, cloP, by omega, inP, by simp only [List.length_nil]; omega, fun H7 r7 q7 m7 R7 k7 ds7 nd7 kb7 lq7 hm7 pb7 _ => ?_⟩
      have kl7 := kb7.len ds7.gat.qn
      simp only [List.length_nil] at lq7
      have S47 : GStep (CG K) H4 a r2 q2 H7 r7 q7 := ⟨ds7.gat, ds7.pre, fun b o e n => ds7.fr b o (s46 _ _ e) fun z => by
        rcases List.mem_cons.mp z with z | z
        · exact ne_of_none (s5 _ _ e) hpk z
        · exact n z, fun b hb => (ds7.new b hb).imp id fun e => none_ofW s46 e⟩
      have lv7 := pb7.lv
      walk_at "rd"
      refine ⟨a, r7, q7, m7, R7, rfl, ds7.gat, hm7, by omega, by omega, by omega, fun H8 q8 m8 S8 l8 e8 => ?_⟩
      obtain ⟨y1, y2, y3, y4, y5⟩ := Sq.trimN_ok R7.level pb7.wf (by omega) (Nat.le_refl _)
      refine k _ _ _ m8 _ ((F13.trans (FStep.of S2)).trans (FStep.of (S47.trans S8))) (tabs_step (tabs_step t4 G4 S47) ds7.gat S8) (by omega) e8 y2 (Nat.le_trans y3 (by omega)) y4 fun u v => ?_
      refine (y5 u v).trans ?_
      rw [pb7.val hW1, ← hval u v]
      by_cases c : -W.half ≤ u ∧ u < W.half ∧ -W.half ≤ v ∧ v < W.half
      · rw [if_pos c]
      · rw [if_neg c, if_neg (by omega)]
        unfold Sq.val
        rw [if_neg c]
theorem ok_filled (T : Env fa fn K mg) (TB : ∀ p ∈ tfs, TabB base mg (He.codeOf K p) (He.tabOf K (He.codeOf K p))) : Good P w K mg base CX0 60 ("filled", none) ["grove", "field", "box", "state"] (sp_filled K) :=
  (ok_filledG T TB).imp fun vs H Q E ⟨a, rows, q, n, S, pb, l, t, w', h, st, xs, ys, ms, N, x1, x2, x3, x4, x5, x6, x7, x8, x9, x10, x11, hpl, ⟨ix1, ix2, iy1, iy2⟩, hN, x12, k⟩ =>
    ⟨a, rows, q, n, S, pb, l, t, w', h, st, N, x1, x2, x3, x4, x5, x6, x7, x8, x9, x10, x11, fun W wW h1 _ hv => plain_pairs wW h1 (hpl.congr hv) ix1 ix2 iy1 iy2 hN, x12, k⟩
end
end JF

/-! ### boxes one place high: few squares with their parts -/
namespace JF
open PySem PySem.Spec PyProof.Rows L2
/-- a kind for each place at which a square meets the box; places of one kind have one square and one part -/
structure Kinds (S : Sq) (l r t b : Int) {κ : Type} (kd : Nat → Int → Int → κ) (KL : Nat → List κ) (N : Nat) : Prop where
  len : ∀ j, (KL j).length ≤ N
  mem : ∀ (j : Nat) (X Y : Int), (2 : Int) ^ j ∣ X → (2 : Int) ^ j ∣ Y → cL (l - X) < cR (r - X) (2 ^ j) → cL (t - Y) < cR (b - Y) (2 ^ j) → kd j X Y ∈ KL j
  uq : ∀ (j : Nat) (T T' : Sq) (X Y X' Y' : Int), SubAt S T X Y → SubAt S T' X' Y' → T.level = j → T'.level = j → cL (l - X) < cR (r - X) (2 ^ j) → cL (t - Y) < cR (b - Y) (2 ^ j) → cL (l - X') < cR (r - X') (2 ^ j) → cL (t - Y') < cR (b - Y') (2 ^ j) →
    kd j X Y = kd j X' Y' → T = T' ∧ part4 l r t b (2 ^ j) X Y = part4 l r t b (2 ^ j) X' Y'
section
variable {S : Sq} {l r t b : Int} {κ : Type} {kd : Nat → Int → Int → κ} {KL : Nat → List κ} {N : Nat}
def IsK (S : Sq) (l r t b : Int) (kd : Nat → Int → Int → κ) (j : Nat) (k : κ) (x : Sq × List Int) : Prop :=
  ∃ X Y : Int, SubAt S x.1 X Y ∧ x.1.level = j ∧ kd j X Y = k ∧ cL (l - X) < cR (r - X) (2 ^ j) ∧ cL (t - Y) < cR (b - Y) (2 ^ j) ∧ x.2 = part4 l r t b (2 ^ j) X Y
theorem IsK.uniq (g : Kinds S l r t b kd KL N) {j : Nat} {k : κ} {x x' : Sq × List Int} (h : IsK S l r t b kd j k x) (h' : IsK S l r t b kd j k x') : x = x' := by
  obtain ⟨X, Y, sa, e1, e2, n1, n2, e3⟩ := h
  obtain ⟨X', Y', sa', e1', e2', n1', n2', e3'⟩ := h'
  obtain ⟨a, c⟩ := g.uq j _ _ X Y X' Y' sa sa' e1 e1' n1 n2 n1' n2' (e2.trans e2'.symm)
  exact Prod.ext a (by rw [e3, e3', c])
open Classical in
noncomputable def kindsL (S : Sq) (l r t b : Int) (kd : Nat → Int → Int → κ) (KL : Nat → List κ) : List (Sq × List Int) :=
  (List.range (S.level + 1)).flatMap fun j => (KL j).filterMap fun k => if h : ∃ x, IsK S l r t b kd j k x then some (Classical.choose h) else none
open Classical in
theorem kindsL_len (g : Kinds S l r t b kd KL N) : (kindsL S l r t b kd KL).length ≤ (S.level + 1) * N := by
  unfold kindsL
  rw [List.length_flatMap]
  have := sum_lePl (fun j => ((KL j).filterMap fun k => if h : ∃ x, IsK S l r t b kd j k x then some (Classical.choose h) else none).length) N (List.range (S.level + 1)) fun j _ => Nat.le_trans (List.length_filterMap_le _ _) (g.len j)
  rw [List.length_range] at this
  exact this
theorem kinds_mem (g : Kinds S l r t b kd KL N) {T : Sq} {X Y : Int} (h : SubAt S T X Y) (n1 : cL (l - X) < cR (r - X) (2 ^ T.level)) (n2 : cL (t - Y) < cR (b - Y) (2 ^ T.level)) : (T, part4 l r t b (2 ^ T.level) X Y) ∈ kindsL S l r t b kd KL := by
  have i : IsK S l r t b kd T.level (kd T.level X Y) (T, part4 l r t b (2 ^ T.level) X Y) := ⟨X, Y, h, rfl, rfl, n1, n2, rfl⟩
  unfold kindsL
  refine List.mem_flatMap.mpr ⟨T.level, List.mem_range.mpr (by have := h.lv; omega), List.mem_filterMap.mpr ⟨_, g.mem _ _ _ h.dx h.dy n1 n2, ?_⟩⟩
  have ex : ∃ x, IsK S l r t b kd T.level (kd T.level X Y) x := ⟨_, i⟩
  rw [dif_pos ex]
  exact congrArg some (IsK.uniq g (Classical.choose_spec ex) i)
theorem kinds_of {x : Sq × List Int} (h : x ∈ kindsL S l r t b kd KL) : ∃ X Y : Int, SubAt S x.1 X Y ∧ x.2 = part4 l r t b (2 ^ x.1.level) X Y := by
  unfold kindsL at h
  obtain ⟨j, _, h⟩ := List.mem_flatMap.mp h
  obtain ⟨k, _, h⟩ := List.mem_filterMap.mp h
  split at h
  · next ex =>
    have e := Option.some.inj h
    obtain ⟨X, Y, a, e1, _, _, _, e2⟩ := Classical.choose_spec ex
    rw [e] at a e1 e2
    exact ⟨X, Y, a, by rw [e1]; exact e2⟩
  · cases h
theorem cloP_kinds (g : Kinds S l r t b kd KL N) : CloP (kindsL S l r t b kd KL) := by
  intro A B C D u u' w h m k T hk n1 n2
  obtain ⟨X, Y, sa, e⟩ := kinds_of m
  have e' : [u, u', w, h] = part4 l r t b (2 ^ (Sq.node A B C D).level) X Y := e
  obtain ⟨sc, lT⟩ := sa.child k T hk
  have e2p : (2 : Int) ^ (Sq.node A B C D).level = 2 * 2 ^ A.level := Sq.two_succ _
  rw [e2p] at e'
  unfold part4 at e'
  simp only [List.cons.injEq, and_true] at e'
  obtain ⟨rfl, rfl, rfl, rfl⟩ := e'
  have hp := Sq.two_pos A.level
  have hk4 : k < 4 := (List.getElem?_eq_some_iff.mp hk).1
  have kx : ((k : Nat) : Int) % 2 = 0 ∨ ((k : Nat) : Int) % 2 = 1 := by omega
  have ky : ((k : Nat) : Int) / 2 = 0 ∨ ((k : Nat) : Int) / 2 = 1 := by omega
  have one : ∀ {l r X k : Int}, (k = 0 ∨ k = 1) → cL (cL (l - X) - k * 2 ^ A.level) = cL (l - (X + k * 2 ^ A.level)) ∧ cR (cL (l - X) - k * 2 ^ A.level + (cR (r - X) (2 * 2 ^ A.level) - cL (l - X))) (2 ^ A.level) = cR (r - (X + k * 2 ^ A.level)) (2 ^ A.level) := fun {l r X k} hk => by
    rcases hk with rfl | rfl
    · rw [Int.zero_mul]
      generalize (2 : Int) ^ A.level = s at *
      refine ⟨by unfold cL; split <;> split <;> omega, ?_⟩
      have e : cL (l - X) - 0 + (cR (r - X) (2 * s) - cL (l - X)) = cR (r - X) (2 * s) := by omega
      rw [e]
      unfold cR
      split <;> split <;> (try split) <;> omega
    · rw [Int.one_mul]
      generalize (2 : Int) ^ A.level = s at *
      refine ⟨by unfold cL; split <;> split <;> omega, ?_⟩
      have e : cL (l - X) - s + (cR (r - X) (2 * s) - cL (l - X)) = cR (r - X) (2 * s) - s := by omega
      rw [e]
      unfold cR
      split <;> split <;> (try split) <;> omega
  obtain ⟨p1, p2⟩ := one (l := l) (r := r) (X := X) kx
  obtain ⟨p3, p4⟩ := one (l := t) (r := b) (X := Y) ky
  rw [p1, p2] at n1 ⊢
  rw [p3, p4] at n2 ⊢
  have z := kinds_mem g sc (by rw [lT]; exact n1) (by rw [lT]; exact n2)
  rw [lT] at z
  exact z
theorem kinds_self (g : Kinds S l r t b kd KL N) (wS : S.wf) (n1 : cL l < cR r (2 ^ S.level)) (n2 : cL t < cR b (2 ^ S.level)) : (S, [cL l, cL t, cR r (2 ^ S.level) - cL l, cR b (2 ^ S.level) - cL t]) ∈ kindsL S l r t b kd KL := by
  have z := kinds_mem g (SubAt.self wS) (by rw [Int.sub_zero, Int.sub_zero]; exact n1) (by rw [Int.sub_zero, Int.sub_zero]; exact n2)
  unfold part4 at z
  simp only [Int.sub_zero] at z
  exact z
end
/-- the one row of squares that a box one place high meets -/
theorem row_at {t Y s : Int} (hs : 0 < s) (hd : s ∣ Y) (n : cL (t - Y) < cR (t + 1 - Y) s) : Y = s * (t / s) := by
  refine (mul_at hs hd ?_ ?_).symm
  · unfold cL cR at n; split at n <;> split at n <;> omega
  · unfold cL cR at n; split at n <;> split at n <;> omega
/-- few places wide -/
theorem row_small (S : Sq) (l t : Int) {w : Int} {N : Nat} (hw : w + 1 ≤ (N : Int)) : Kinds S l (l + w) t (t + 1) (fun _ X _ => X) (fun j => (List.range N).map fun i : Nat => (2 : Int) ^ j * (l / 2 ^ j + (i : Int))) N where
  len j := by rw [List.length_map, List.length_range]; exact Nat.le_refl _
  mem j X Y dx dy n1 n2 := by
    have hs : (0 : Int) < 2 ^ j := Sq.two_pos j
    obtain ⟨k, rfl⟩ := dx
    generalize (2 : Int) ^ j = s at *
    have e1 : l < s * k + s := by unfold cL cR at n1; split at n1 <;> split at n1 <;> omega
    have e2 : s * k < l + w := by unfold cL cR at n1; split at n1 <;> split at n1 <;> omega
    have w1 : 0 < w := by unfold cL cR at n1; split at n1 <;> split at n1 <;> omega
    have d0 := Int.emod_nonneg l (show s ≠ 0 by omega)
    have d1 := Int.emod_lt_of_pos l hs
    have d2 := Int.mul_ediv_add_emod l s
    have k0 : l / s ≤ k := by
      apply Decidable.byContradiction
      intro z
      have z' : k + 1 ≤ l / s := by omega
      have := Int.mul_le_mul_of_nonneg_left z' (Int.le_of_lt hs)
      rw [Int.mul_add, Int.mul_one] at this
      omega
    have k1 : k < l / s + (N : Int) := by
      apply Decidable.byContradiction
      intro z
      have z' : l / s + (N : Int) ≤ k := by omega
      have h1 := Int.mul_le_mul_of_nonneg_left z' (Int.le_of_lt hs)
      rw [Int.mul_add] at h1
      have h2 : (N : Int) * 1 ≤ (N : Int) * s := Int.mul_le_mul_of_nonneg_left (by omega) (by omega)
      rw [Int.mul_comm s (N : Int)] at h1
      have h3 : (N : Int) * s ≤ w - 1 + l % s := by omega
      have h4 : (N : Int) * s - s ≥ (N : Int) - 1 := by
        have e : (N : Int) * s - s = ((N : Int) - 1) * s := by rw [Int.sub_mul, Int.one_mul]
        rw [e]
        rcases (by omega : (N : Int) - 1 < 0 ∨ 0 ≤ (N : Int) - 1) with c | c
        · omega
        · have := Int.mul_le_mul_of_nonneg_left (show (1 : Int) ≤ s by omega) c
          omega
      omega
    refine List.mem_map.mpr ⟨(k - l / s).toNat, List.mem_range.mpr (by omega), ?_⟩
    congr 1
    omega
  uq j T T' X Y X' Y' sa sa' e1 e2 _ n2 _ n2' e := by
    have e : X = X' := e
    subst e
    have dy := sa.dy
    have dy' := sa'.dy
    rw [e1] at dy
    rw [e2] at dy'
    have y1 := row_at (Sq.two_pos j) dy n2
    have y2 := row_at (Sq.two_pos j) dy' n2'
    obtain rfl : Y = Y' := y1.trans y2.symm
    refine ⟨sq_ext sa.wf sa'.wf (e1.trans e2.symm) fun x y a b c d => ?_, rfl⟩
    rw [sa.gt x y a b c d, sa'.gt x y a (by rw [e2, ← e1]; exact b) c (by rw [e2, ← e1]; exact d)]
/-- values that change along a row only at these columns -/
def PlX (v : Int → Int → Int) (xs : List Int) : Prop := ∀ x x' y, (∀ b ∈ xs, x < b ↔ x' < b) → v x y = v x' y
theorem PlX.mono {v : Int → Int → Int} {xs xs' : List Int} (h : PlX v xs) (hx : ∀ b ∈ xs, b ∈ xs') : PlX v xs' := fun x x' y e => h x x' y fun b m => e b (hx b m)
theorem PlX.const (s : Int) (xs : List Int) : PlX (fun _ _ => s) xs := fun _ _ _ _ => rfl
theorem PlX.box {v : Int → Int → Int} {xs : List Int} (p : PlX v xs) {l w t h st : Int} (hl : l ∈ xs) (hr : l + w ∈ xs) : PlX (fun u z => if l ≤ u ∧ u < l + w ∧ t ≤ z ∧ z < t + h then st else v u z) xs := fun x x' y e => by
  have e1 := e _ hl
  have e2 := e _ hr
  dsimp only
  by_cases c : l ≤ x ∧ x < l + w ∧ t ≤ y ∧ y < t + h
  · rw [if_pos c, if_pos (by omega)]
  · rw [if_neg c, if_neg (by omega)]
    exact p x x' y e
theorem PlX.congr {v v' : Int → Int → Int} {xs : List Int} (h : PlX v xs) (e : ∀ u z, v' u z = v u z) : PlX v' xs := fun x x' y b => by rw [e, e]; exact h x x' y b
theorem row_plain {S : Sq} (h1 : 1 ≤ S.level) {xs : List Int} (p : PlX S.val xs) {l r t : Int} (hl : l ∈ xs) (hr : r ∈ xs) : Kinds S (l + S.half) (r + S.half) (t + S.half) (t + S.half + 1) (fun j X _ => ck (xs.map (· + S.half)) (2 ^ j) X) (fun j => ckL (xs.map (· + S.half)) (2 ^ j)) (2 * xs.length + 1) where
  len j := by rw [ckL_len, List.length_map]; exact Nat.le_refl _
  mem j X Y dx dy n1 n2 := ck_mem (Sq.two_pos j) dx
  uq j T T' X Y X' Y' sa sa' e1 e2 n1 n2 n1' n2' e := by
    have m : ∀ {z : Int}, z ∈ xs → z + S.half ∈ xs.map (· + S.half) := fun h => List.mem_map.mpr ⟨_, h, rfl⟩
    have e2h := half_two h1
    have dy := sa.dy
    have dy' := sa'.dy
    have x0 := sa.x0; have x1 := sa.x1; have y0 := sa.y0; have y1 := sa.y1
    have x0' := sa'.x0; have x1' := sa'.x1
    rw [e1] at dy x1 y1
    rw [e2] at dy' x1'
    obtain rfl : Y = Y' := (row_at (Sq.two_pos j) dy n2).trans (row_at (Sq.two_pos j) dy' n2').symm
    obtain ⟨p1, p2⟩ := ck_part e (m hl) (m hr) n1 n1'
    refine ⟨sq_ext sa.wf sa'.wf (e1.trans e2.symm) fun x y a b c d => ?_, by unfold part4; rw [p1, p2]⟩
    rw [sa.gt x y a b c d, sa'.gt x y a (by rw [e2, ← e1]; exact b) c (by rw [e2, ← e1]; exact d)]
    rw [e1] at b d
    have g : ∀ x y : Int, 0 ≤ x → x < 2 ^ S.level → 0 ≤ y → y < 2 ^ S.level → S.get x y = S.val (x - S.half) (y - S.half) := fun x y a b c d => by
      unfold Sq.val
      rw [if_pos (by omega), Int.sub_add_cancel, Int.sub_add_cancel]
    rw [g _ _ (by omega) (by omega) (by omega) (by omega), g _ _ (by omega) (by omega) (by omega) (by omega)]
    refine p _ _ _ fun c hc => ?_
    have := ck_same e (m hc) a b
    omega
theorem few_of {S : Sq} {l t w' h : Int} {N : Nat} (hk : ∀ W : Sq, W.wf → 1 ≤ W.level → W.level ≤ 41 → (∀ u v, W.val u v = S.val u v) → ∃ (κ : Type) (kd : Nat → Int → Int → κ) (KL : Nat → List κ), Kinds W (l + W.half) (l + w' + W.half) (t + W.half) (t + h + W.half) kd KL N) : FewP S l t w' h N := fun W wW h1 h41 hv => by
  obtain ⟨κ, kd, KL, g⟩ := hk W wW h1 h41 hv
  exact ⟨kindsL W _ _ _ _ kd KL, cloP_kinds g, kindsL_len g, fun n1 n2 => kinds_self g wW n1 n2⟩
theorem few_small {S : Sq} {l t w' : Int} {N : Nat} (hw : w' + 1 ≤ (N : Int)) : FewP S l t w' 1 N := few_of fun W wW h1 h41 hv => by
  refine ⟨Int, fun _ X _ => X, fun j => (List.range N).map fun i : Nat => (2 : Int) ^ j * ((l + W.half) / 2 ^ j + (i : Int)), ?_⟩
  rw [show l + w' + W.half = l + W.half + w' by omega, show t + 1 + W.half = t + W.half + 1 by omega]
  exact row_small W (l + W.half) (t + W.half) hw
theorem few_plain {S : Sq} {l t w' : Int} {xs : List Int} {N : Nat} (p : PlX S.val xs) (hl : l ∈ xs) (hr : l + w' ∈ xs) (hN : 2 * xs.length + 1 ≤ N) : FewP S l t w' 1 N := few_of fun W wW h1 h41 hv => by
  refine ⟨Sum (Option Int) Int, fun j X _ => ck (xs.map (· + W.half)) (2 ^ j) X, fun j => ckL (xs.map (· + W.half)) (2 ^ j), ?_⟩
  rw [show t + 1 + W.half = t + W.half + 1 by omega]
  have k := row_plain h1 (p.congr hv) (t := t) hl hr
  exact ⟨fun j => Nat.le_trans (k.len j) hN, k.mem, k.uq⟩
end JF

/-! ### what the laws about boxes have in common -/
namespace JF
open PySem PySem.Spec PyProof.Rows L2 NdefX LamX
section
variable {P : Program} {w : World} {K : PySem.W.Frag} {mg : Str → Option Value} {base : Heap}
def sp_lawT (K : PySem.W.Frag) : Sp := fun vs H Q _ => ∃ (a : Addr) (ns : List Int), vs = [.ref a] ∧ SqL K H a (ns.map V.int) ∧ ns.length ≤ 63 ∧ TabsN (tabsN K) H ∧ ∀ H', Q (.bl true) H'
theorem sp_lawT_in {K : PySem.W.Frag} (H : Hp) (a : Addr) (ns : List Int) (hl : ns.length ≤ 63) (hT : ∀ p ∈ tfs, H (He.cT K p).2 = some (.tbl #[])) (hS : SqL K H a (ns.map V.int)) : sp_lawT K [.ref a] H (fun v _ => v = .bl true) (fun _ _ _ => False) :=
  ⟨a, ns, rfl, hS, hl, fun p hp => by
    obtain ⟨q, hq, rfl⟩ := List.mem_map.mp hp
    exact TabN.nil (hT q hq), fun _ => rfl⟩
def sp_long : Sp := fun vs H Q _ => ∃ (c k r : Int), vs = [.int c, .int k, .int r] ∧ 0 ≤ k ∧ k ≤ 5000 ∧ 0 ≤ r ∧ ∀ z : Int, 0 ≤ z → z ≤ r → Q (.int z) H
theorem mp_long : MonP sp_long := fun vs H Q Q' E h ⟨c, k, r, x1, x2, x3, x4, q⟩ => ⟨c, k, r, x1, x2, x3, x4, fun z a b => h _ _ (q z a b)⟩
def sp_box_by (K : PySem.W.Frag) : Sp := fun vs H Q _ => ∃ (a : Addr) (ns : List Int) (fst : Int) (b : Nat), vs = [.ref a, .int fst, .int (b : Int)] ∧ SqL K H a (ns.map V.int) ∧ 0 ≤ fst ∧ b ≤ 40 ∧
  ∀ l t w' h : Int, -(2 ^ b) ≤ l → -(2 ^ b) ≤ t → 0 ≤ w' → 0 ≤ h → l + w' ≤ 2 ^ b → t + h ≤ 2 ^ b → l < 2 ^ b → t < 2 ^ b → ∀ p', H p' = none → Q (.ref p') (upd H p' (.tup [.int l, .int t, .int w', .int h]))
theorem mp_box_by : MonP (sp_box_by K) := fun vs H Q Q' E h ⟨a, ns, f, b, x1, x2, x3, x4, k⟩ => ⟨a, ns, f, b, x1, x2, x3, x4, fun l t w' h' c1 c2 c3 c4 c5 c6 c7 c8 p' hp => h _ _ (k l t w' h' c1 c2 c3 c4 c5 c6 c7 c8 p' hp)⟩
def sp_insideB : Sp := fun vs H Q _ => ∃ (p : Addr) (l t w' h x y : Int), vs = [.ref p, .int x, .int y] ∧ BoxT H p l t w' h ∧ Q (.bl (decide (l ≤ x ∧ x < l + w' ∧ t ≤ y ∧ y < t + h))) H
theorem mp_insideB : MonP sp_insideB := fun vs H Q Q' E h ⟨p, l, t, w', h', x, y, x1, x2, x3⟩ => ⟨p, l, t, w', h', x, y, x1, x2, h _ _ x3⟩
theorem length_putKT (kvs : List (List Key × V)) (k : List Key) (x : V) : (putK kvs k x).length ≤ kvs.length + 1 := by
  unfold putK
  split
  · rw [List.length_map]; omega
  · rw [List.length_append]; exact Nat.le_refl _
theorem putT_lst {H : Hp} {p b : Addr} {kvs : List (List Key × V)} {xs : List V} {o : HO} (hp : H p = some (.dT kvs)) (h : H b = some (.lst xs)) : (upd H p o) b = some (.lst xs) := by
  rw [upd_ne (fun z => by rw [z, hp] at h; cases h)]; exact h
theorem tabs_put {T : List NTab} {H : Hp} {p : Addr} {kvs : List (List Key × V)} (t : TabsN T H) (hp : H p = some (.dT kvs)) (o : HO) : TabsN T (upd H p o) := tabs_fr t fun b u e h => by
  rw [upd_ne (fun z => by
    rw [z, hp] at e
    cases e
    rcases h with ⟨_, h⟩ | ⟨_, h⟩ <;> cases h)]
  exact e
theorem GAt.uniqT {C : Addr} {H : Hp} {a : GA} {rows : List (Int × Addr)} {q : List Sq} (G : GAt C H a rows q) {n m : Nat} {S : Sq} (h : q[n]? = some S) (h' : q[m]? = some S) : n = m := by
  obtain ⟨h1, e1⟩ := List.getElem?_eq_some_iff.mp h
  obtain ⟨h2, e2⟩ := List.getElem?_eq_some_iff.mp h'
  exact (List.getElem_inj G.qn).mp (by rw [e1, e2])
theorem lives_len {S : Sq} {l : List (List Int)} (h : l.Perm S.cells) : S.lives = (l.length : Int) := by
  rw [h.length_eq]
  exact (wi_len S _ _).symm
theorem same_putW {H0 H : Hp} {p : Addr} {o : HO} (s : Same H0 H) (h : H0 p = none) : Same H0 (upd H p o) := fun b u e => by
  rw [upd_ne (ne_of_none e h)]
  exact s _ _ e
/-- the script's numbers, over steps in which tables may grow -/
def ScS (K : PySem.W.Frag) (a0 : Addr) (xs : List V) (a : GA) (rows : List (Int × Addr)) (H : Hp) : Prop := (∀ H', SqL K H' a0 xs) ∨ ∃ o, H a0 = some o ∧ (∀ ps, o ≠ .tbl ps) ∧ (∀ H', H' a0 = some o → SqL K H' a0 xs) ∧ a0 ∉ a.muts rows
theorem ScS.of {H0 H : Hp} {a0 : Addr} {a : GA} {rows : List (Int × Addr)} {xs : List V} (h : Scr H0 a0 a rows H) (hS : SqL K H0 a0 xs) : ScS K a0 xs a rows H := by
  rcases hS with e | e
  · right
    rcases e with e | ⟨u, e⟩
    · exact ⟨_, (h _ e).1, (fun ps z => by cases z), fun H' z => .inl (.inl z), (h _ e).2⟩
    · exact ⟨_, (h _ e).1, (fun ps z => by cases z), fun H' z => .inl (.inr ⟨u, z⟩), (h _ e).2⟩
  · exact .inl fun _ => .inr e
theorem ScS.sq {H : Hp} {a0 : Addr} {a : GA} {rows : List (Int × Addr)} {xs : List V} (h : ScS K a0 xs a rows H) : SqL K H a0 xs := h.elim (fun z => z H) fun ⟨_, e, _, z, _⟩ => z H e
theorem ScS.fstep {C : Addr} {H H1 : Hp} {a0 : Addr} {a : GA} {rows r1 : List (Int × Addr)} {q q1 : List Sq} {xs : List V} (h : ScS K a0 xs a rows H) (x : FStep C H a rows q H1 r1 q1) : ScS K a0 xs a r1 H1 :=
  h.imp id fun ⟨o, e, t, z, n⟩ => ⟨o, (x.own e n t).1, t, z, (x.own e n t).2⟩
theorem ScS.step {C : Addr} {H H1 : Hp} {a0 : Addr} {a : GA} {rows r1 : List (Int × Addr)} {q q1 : List Sq} {xs : List V} (h : ScS K a0 xs a rows H) (x : GStep C H a rows q H1 r1 q1) : ScS K a0 xs a r1 H1 := h.fstep (FStep.of x)
theorem ScS.same {H H1 : Hp} {a0 : Addr} {a : GA} {rows : List (Int × Addr)} {xs : List V} (h : ScS K a0 xs a rows H) (s : Same H H1) : ScS K a0 xs a rows H1 := h.imp id fun ⟨o, e, r⟩ => ⟨o, s _ _ e, r⟩
/-- one's own list, new since, changed -/
theorem ScS.put {H0 H : Hp} {a0 p : Addr} {a : GA} {rows : List (Int × Addr)} {xs : List V} {o' : HO} (h0 : ScS K a0 xs a rows H0) (s : Same H0 H) (hp : H0 p = none) : ScS K a0 xs a rows (upd H p o') := h0.imp id fun ⟨o, e, r⟩ => ⟨o, by rw [upd_ne (ne_of_none e hp)]; exact s _ _ e, r⟩
/-- a dict that was held while it was walked -/
theorem thaw {H H3 : Hp} {pd : Addr} {kvs : List (List Key × V)} {od : PySem.Obj} (hd : H pd = some (.dT kvs)) (s3 : Same (upd H pd (.frz od (.dT kvs))) H3) : Same H (upd H3 pd (.dT kvs)) := fun b o e => by
  by_cases z : b = pd
  · rw [z, upd_same]; rw [z, hd] at e; exact e
  · rw [upd_ne z]; exact s3 _ _ (by rw [upd_ne z]; exact e)
theorem thaw_none {H : Hp} {pd D : Addr} {kvs : List (List Key × V)} {od : PySem.Obj} (hD : (upd H pd (.frz od (.dT kvs))) D = none) : H D = none ∧ D ≠ pd := by
  have n : D ≠ pd := fun z => by rw [z, upd_same] at hD; cases hD
  rw [upd_ne n] at hD
  exact ⟨hD, n⟩
theorem TR.rev {H : Hp} : ∀ {rs : List Addr} {xs : List (List Int)}, TR H rs xs → TR H rs.reverse xs.reverse
  | [], [], _ => trivial
  | r :: rs, x :: xs, h => by rw [List.reverse_cons, List.reverse_cons]; exact TR.app h.1 (TR.rev h.2)
  | [], _ :: _, h => h.elim
  | _ :: _, [], h => h.elim
theorem num_eq {C : Addr} {H : Hp} {a : GA} {rows : List (Int × Addr)} {q : List Sq} (G : GAt C H a rows q) {n m : Nat} {S T : Sq} (hn : q[n]? = some S) (hm : q[m]? = some T) (l1 : 1 ≤ S.level) (l2 : 1 ≤ T.level) (L1 : S.Least) (L2 : T.Least) (hv : ∀ u v, S.val u v = T.val u v) : n = m :=
  G.uniqT hn (by rw [least_eq (G.wf _ (List.mem_of_getElem? hn)) (G.wf _ (List.mem_of_getElem? hm)) l1 l2 L1 L2 hv]; exact hm)
theorem Pl.fill {v v' : Int → Int → Int} {xs ys : List Int} {ms : List (Int × Int)} {l t w h st : Int} (p : Pl v xs ys ms) (m : l ∈ xs ∧ l + w ∈ xs ∧ t ∈ ys ∧ t + h ∈ ys) (e : ∀ u z, v' u z = if l ≤ u ∧ u < l + w ∧ t ≤ z ∧ z < t + h then st else v u z) : Pl v' xs ys ms :=
  (Pl.box (f := fun _ => st) (g := fun s => s) p m.1 m.2.1 m.2.2.1 m.2.2.2).congr e
theorem Pl.cut {v v' : Int → Int → Int} {xs ys : List Int} {ms : List (Int × Int)} {l t w h : Int} (p : Pl v xs ys ms) (m : l ∈ xs ∧ l + w ∈ xs ∧ t ∈ ys ∧ t + h ∈ ys) (e : ∀ u z, v' u z = if l ≤ u ∧ u < l + w ∧ t ≤ z ∧ z < t + h then v u z else 0) : Pl v' xs ys ms :=
  (Pl.box (f := fun s => s) (g := fun _ => 0) p m.1 m.2.1 m.2.2.1 m.2.2.2).congr e
theorem GStep.ofM5 {C : Addr} {H H' : Hp} {a : GA} {rows : List (Int × Addr)} {q q' : List Sq} (G : GAt C H' a rows q') (p : q <+: q') (f : Fr a.m5 H H') : GStep C H a rows q H' rows q' := ⟨G, p, f.mono fun b h => List.mem_append_left _ h, fun _ h => .inl h⟩
theorem FStep.after {C : Addr} {H H1 H2 : Hp} {a : GA} {rows r2 : List (Int × Addr)} {q q2 : List Sq} (s : Same H H1) (x : FStep C H1 a rows q H2 r2 q2) : FStep C H a rows q H2 r2 q2 :=
  ⟨x.gat, x.pre, fun b o e n t => x.fr b o (s _ _ e) n t, fun b h => (x.new b h).imp id (none_ofW s), fun b h n => x.nn b (by
    cases e : H b with
    | none => exact absurd e h
    | some o => rw [s _ _ e]; simp) n⟩
end
end JF

/-! ### the greatest of four numbers; lists of truths counted and searched -/
namespace JF
open PySem PySem.Spec PyProof.Rows L2 PyProof
section
variable {prog : Program} {w : World} {A : Around} {E : Value → Shared → Prop} {s : Shared}
theorem args_max4 (x1 x2 x3 x4 : Value) : argsOk "max" ⟨[x1, x2, x3, x4], []⟩ := by
  unfold argsOk
  kernel_rfl
theorem call_max_four {x1 x2 x3 x4 : Value} {Q : Value → Shared → Prop}
    (hh : wpAny (model prog w) A.in1 (pyIter (.ref s.heap.objs.size)) (fun it z => ∃ I fp wr n P St bt, it = .ref I ∧ Walks prog w A.in1 I fp wr n P St ∧ St 0 z.heap ∧ (∀ b ∈ fp, b < z.heap.objs.size) ∧ 0 < n ∧ CmpOf prog w A.in1 .Gt P bt ∧
      ∀ u g tk, P (argBest bt (n - 1)) u → (∀ b o, b ∉ wr → z.heap.get? b = some o → g.get? b = some o) → Q u { z with heap := g, toks := tk }) E
      { s with heap := s.heap.push { cls := .type "tuple", data := .seq #[x1, x2, x3, x4] } }) :
    wpAny (model prog w) A (call (.builtin "max") [x1, x2, x3, x4]) Q E s := by
  have nm : (toString "max" ++ toString ".loop" : String) = "max.loop" := by decide
  refine call_function_tree PySem.F.kind_max PySem.F.plain_max PySem.F.entry_max (args_max4 x1 x2 x3 x4) ?_
  change wpAny _ A.in1 (Builtin.Builtins.bindParams "max" ["key", "default"] 0 ⟨[], []⟩ >>= _) _ _ s
  refine wpAny_bind (wpAny_of_eq (show Builtin.Builtins.bindParams "max" ["key", "default"] 0 ⟨[], []⟩ = pure [none, none] from rfl) ?_)
  change wpAny _ A.in1 (newTuple [x1, x2, x3, x4] >>= _) _ _ s
  refine wpAny_bind (wpAny_newObj_type ?_)
  refine wpAny_bind (wpAny_mono hh (fun it z hz => ?_) fun _ _ e => e)
  obtain ⟨I, fp, wr, n, P, St, bt, rfl, W, st0, fpl, n0, cm, fin⟩ := hz
  refine wpAny_bind (wpAny_newObj_type ?_)
  have away : z.heap.objs.size ∉ fp := fun m => Nat.lt_irrefl _ (fpl _ m)
  rw [nm]
  refine wpAny_pure ⟨plainId_quiet PySem.F.plain_max_loop _, codeAny_max_loop_first W bt cm z.heap.objs.size away n0 (W.frame _ _ _ st0 fun b _ o e => Heap.get?_push_of_some _ e) (Heap.get?_push_size _ rfl) fun u g tk hP kp => ?_⟩
  exact fin u g tk hP fun b o nb e => kp b o nb (Nat.ne_of_lt (Heap.lt_size e)) (Heap.get?_push_of_some _ e)
/-- the greatest of four, by cases -/
theorem best4 (f : Nat → Int) : ∃ i, i < 4 ∧ argBest (fun i j => decide (f i > f j)) 3 = i ∧ f 0 ≤ f i ∧ f 1 ≤ f i ∧ f 2 ≤ f i ∧ f 3 ≤ f i := by
  have a1 : argBest (fun i j => decide (f i > f j)) 1 = if f 1 > f 0 then 1 else 0 := by simp [argBest]
  have a2 : argBest (fun i j => decide (f i > f j)) 2 = if f 2 > f (argBest (fun i j => decide (f i > f j)) 1) then 2 else argBest (fun i j => decide (f i > f j)) 1 := by simp [argBest]
  have a3 : argBest (fun i j => decide (f i > f j)) 3 = if f 3 > f (argBest (fun i j => decide (f i > f j)) 2) then 3 else argBest (fun i j => decide (f i > f j)) 2 := by simp [argBest]
  rw [a3, a2, a1]
  by_cases c1 : f 1 > f 0
  · rw [if_pos c1]
    by_cases c2 : f 2 > f 1
    · rw [if_pos c2]
      by_cases c3 : f 3 > f 2
      · exact ⟨3, by decide, if_pos c3, by omega, by omega, by omega, by omega⟩
      · exact ⟨2, by decide, if_neg c3, by omega, by omega, by omega, by omega⟩
    · rw [if_neg c2]
      by_cases c3 : f 3 > f 1
      · exact ⟨3, by decide, if_pos c3, by omega, by omega, by omega, by omega⟩
      · exact ⟨1, by decide, if_neg c3, by omega, by omega, by omega, by omega⟩
  · rw [if_neg c1]
    by_cases c2 : f 2 > f 0
    · rw [if_pos c2]
      by_cases c3 : f 3 > f 2
      · exact ⟨3, by decide, if_pos c3, by omega, by omega, by omega, by omega⟩
      · exact ⟨2, by decide, if_neg c3, by omega, by omega, by omega, by omega⟩
    · rw [if_neg c2]
      by_cases c3 : f 3 > f 0
      · exact ⟨3, by decide, if_pos c3, by omega, by omega, by omega, by omega⟩
      · exact ⟨0, by decide, if_neg c3, by omega, by omega, by omega, by omega⟩
theorem max_four_ints {i1 i2 i3 i4 : Int} {t1 t2 t3 t4 : Tok} {Q : Value → Shared → Prop} (hh : A.handled = none)
    (fin : ∀ g tk z t, (∀ d o, s.heap.get? d = some o → g.get? d = some o) → (z = i1 ∨ z = i2 ∨ z = i3 ∨ z = i4) → i1 ≤ z → i2 ≤ z → i3 ≤ z → i4 ≤ z → Q (.int z t) { s with heap := g, toks := tk }) :
    wpAny (model prog w) A (call (.builtin "max") [.int i1 t1, .int i2 t2, .int i3 t3, .int i4 t4]) Q E s := by
  obtain ⟨ar, har⟩ : ∃ ar : Array (Int × Tok), ar = #[(i1, t1), (i2, t2), (i3, t3), (i4, t4)] := ⟨_, rfl⟩
  have items : intItems ar = #[.int i1 t1, .int i2 t2, .int i3 t3, .int i4 t4] := by rw [har]; simp [intItems]
  have four : (intItems ar).size = 4 := by rw [items]; rfl
  have tp : (s.heap.push { cls := .type "tuple", data := .seq #[.int i1 t1, .int i2 t2, .int i3 t3, .int i4 t4] }).IsTuple s.heap.objs.size (intItems ar) := ⟨_, Heap.get?_push_size _ rfl, rfl, 0, by rw [items]⟩
  refine call_max_four (wpAny_pyIter_tuple tp ?_)
  have sz : (s.heap.push { cls := .type "tuple", data := .seq #[.int i1 t1, .int i2 t2, .int i3 t3, .int i4 t4] }).objs.size = s.heap.objs.size + 1 := Heap.size_push ..
  refine ⟨_, [_, s.heap.objs.size], [_], _, _, _, _, rfl, Walks.tuple (A := A.in1) hh _ s.heap.objs.size (by rw [sz]; exact Nat.ne_of_lt (Nat.lt_succ_self _)) (intItems ar), ⟨⟨_, Heap.get?_push_size _ rfl, rfl, rfl⟩, tp.push _⟩, fun d hd => ?_, by rw [four]; decide, CmpOf.ints_gt (numAt ar) (fun _ _ => intItems_at), fun u g tk hP kp => ?_⟩
  · show d < ((s.heap.push _).push _).objs.size
    rw [Heap.size_push, sz]
    simp only [List.mem_cons, List.not_mem_nil, or_false] at hd
    rcases hd with hd | hd
    · rw [hd, sz]; exact Nat.lt_succ_self _
    · rw [hd]; exact Nat.lt_succ_of_lt (Nat.lt_succ_self _)
  · have old : ∀ d o, s.heap.get? d = some o → g.get? d = some o := fun d o e => by
      refine kp d o (fun m => ?_) (Heap.get?_push_of_some _ (Heap.get?_push_of_some _ e))
      have lt := Heap.lt_size e
      simp only [List.mem_cons, List.not_mem_nil, or_false] at m
      rw [m, sz] at lt
      exact absurd (Nat.lt_of_succ_lt lt) (Nat.lt_irrefl _)
    obtain ⟨i, i4', ei, m0, m1, m2, m3⟩ := best4 (numAt ar)
    have hP' : (intItems ar)[argBest (fun i j => decide (numAt ar i > numAt ar j)) 3]? = some u := by
      have e3 : (intItems ar).size - 1 = 3 := by rw [four]
      rw [← e3]; exact hP
    rw [ei, items] at hP'
    have n0 : numAt ar 0 = i1 := by rw [har]; simp [numAt]
    have n1 : numAt ar 1 = i2 := by rw [har]; simp [numAt]
    have n2 : numAt ar 2 = i3 := by rw [har]; simp [numAt]
    have n3 : numAt ar 3 = i4 := by rw [har]; simp [numAt]
    rw [n0] at m0
    rw [n1] at m1
    rw [n2] at m2
    rw [n3] at m3
    match i, i4', hP', m0, m1, m2, m3 with
    | 0, _, hP', m0, m1, m2, m3 =>
      obtain rfl : Value.int i1 t1 = u := by simpa using hP'
      rw [n0] at m0 m1 m2 m3
      exact fin g tk i1 t1 old (.inl rfl) m0 m1 m2 m3
    | 1, _, hP', m0, m1, m2, m3 =>
      obtain rfl : Value.int i2 t2 = u := by simpa using hP'
      rw [n1] at m0 m1 m2 m3
      exact fin g tk i2 t2 old (.inr (.inl rfl)) m0 m1 m2 m3
    | 2, _, hP', m0, m1, m2, m3 =>
      obtain rfl : Value.int i3 t3 = u := by simpa using hP'
      rw [n2] at m0 m1 m2 m3
      exact fin g tk i3 t3 old (.inr (.inr (.inl rfl))) m0 m1 m2 m3
    | 3, _, hP', m0, m1, m2, m3 =>
      obtain rfl : Value.int i4 t4 = u := by simpa using hP'
      rw [n3] at m0 m1 m2 m3
      exact fin g tk i4 t4 old (.inr (.inr (.inr rfl))) m0 m1 m2 m3
end
section
variable {X : Cx}
theorem vals4 {x1 x2 x3 x4 : V} {us : List Value} (r : Vals [x1, x2, x3, x4] us) : ∃ u1 u2 u3 u4, us = [u1, u2, u3, u4] ∧ RelV x1 u1 ∧ RelV x2 u2 ∧ RelV x3 u3 ∧ RelV x4 u4 := by
  cases r with
  | cons r1 r2 =>
    cases r2 with
    | cons q2 r3 =>
      obtain ⟨u3, u4, rfl, q3, q4⟩ := vals2 r3
      exact ⟨_, _, _, _, rfl, r1, q2, q3, q4⟩
def rMax4 : List V → Hp → VK → Prop := fun xs H Q => ∃ a b c d : Int, xs = [.int a, .int b, .int c, .int d] ∧ ∀ z : Int, (z = a ∨ z = b ∨ z = c ∨ z = d) → a ≤ z → b ≤ z → c ≤ z → d ≤ z → Q (.int z) H
theorem call_maxN (hc : X.calm = true) : CallR X (.builtin "max") rMax4 := by
  intro pins s σ H xs us Q I r h
  obtain ⟨a, b, c, d, rfl, q⟩ := h
  obtain ⟨u1, u2, u3, u4, rfl, ⟨t1, rfl⟩, ⟨t2, rfl⟩, ⟨t3, rfl⟩, ⟨t4, rfl⟩⟩ := vals4 r
  exact max_four_ints (I.ok.hd hc) fun g tk z t k e h1 h2 h3 h4 => ⟨.int z, H, I.kept k, ⟨t, rfl⟩, q z e h1 h2 h3 h4⟩
/-! #### lists of truths -/
theorem holds_bools {h : Heap} : ∀ {bs : List Bool} {its : List Value}, Vals (bs.map V.bl) its → PySem.W.HoldAll h its bs
  | [], its, r => by
    rw [List.map_nil] at r
    cases r
    exact PySem.W.HoldAll.nil
  | b :: bs, its, r => by
    rw [List.map_cons] at r
    cases r with
    | cons r1 r2 =>
      cases r1
      exact PySem.W.HoldAll.cons (PySem.W.holds_bool b) (holds_bools r2)
def rCntB (K : PySem.W.Frag) : V → List V → Hp → VK → Prop := fun x xs H Q => ∃ (p : Addr) (bs : List Bool), x = .ref p ∧ xs = [.bl true] ∧ SqL K H p (bs.map V.bl) ∧ Q (.int (bs.countP fun y => decide (y = true) : Nat)) H
theorem mt_bcount (room : X.A.units + 1 < cLine) : MtR X "list.count" (rCntB X.K) := by
  intro pins s σ H x xs v us Q I rx rxs h
  obtain ⟨p, bs, rfl, rfl, hs, q⟩ := h
  cases rx
  obtain ⟨u, rfl, ru⟩ := rxs.one
  cases ru
  obtain ⟨its, rv, hl, hlen⟩ := I.list hs
  refine PySem.W.count_list_datum (α := Bool) (x := true) (xs := bs) hl.isList ?_ (PySem.W.holds_bool true) ?_ ⟨.int (bs.countP fun y => decide (y = true) : Nat), H, I.tok _, ⟨_, rfl⟩, q⟩
  · exact holds_bools rv
  · show X.A.units + 1 + 0 < cLine
    omega
def rIdxB (K : PySem.W.Frag) : V → List V → Hp → VK → Prop := fun x xs H Q => ∃ (p : Addr) (bs : List Bool), x = .ref p ∧ xs = [.bl true] ∧ SqL K H p (bs.map V.bl) ∧ true ∈ bs ∧ Q (.int (bs.idxOf true : Nat)) H
theorem mt_bindex (room : X.A.units + 1 < cLine) : MtR X "list.index" (rIdxB X.K) := by
  intro pins s σ H x xs v us Q I rx rxs h
  obtain ⟨p, bs, rfl, rfl, hs, hm, q⟩ := h
  cases rx
  obtain ⟨u, rfl, ru⟩ := rxs.one
  cases ru
  obtain ⟨its, rv, hl, hlen⟩ := I.list hs
  rw [List.length_map] at hlen
  refine PySem.W.index_list_datum (α := Bool) (x := true) (xs := bs) (vs := its) hl.isList (holds_bools rv) (PySem.W.holds_bool true) ?_ hlen hm ⟨.int (bs.idxOf true : Nat), H, I.tok _, ⟨_, rfl⟩, q⟩
  show X.A.units + 1 + 0 < cLine
  omega
end
end JF

/-! ### runs: their text, read and shown -/
namespace JF
open PySem PySem.Spec PyProof.Rows L2
/-! #### texts as lists of signs -/
def tx (l : List Nat) : Str := ⟨l.toArray⟩
theorem tl_tx (l : List Nat) : TL.tl (tx l) = l := rfl
theorem str_tx {l : List Nat} {z : Str} (h : TL.tl z = l) : z = tx l := TL.ext_tl h
theorem tx_inj {l m : List Nat} (h : tx l = tx m) : l = m := by rw [← tl_tx l, ← tl_tx m, h]
theorem tx_eq {l m : List Nat} : decide (tx l = tx m) = decide (l = m) := by
  by_cases h : l = m
  · rw [h, decide_eq_true rfl, decide_eq_true rfl]
  · rw [decide_eq_false h, decide_eq_false fun e => h (tx_inj e)]
theorem tx_len (l : List Nat) : (tx l).length = l.length := by rw [TL.len_tl, tl_tx]
theorem tx_app (l m : List Nat) : tx l ++ tx m = tx (l ++ m) := str_tx (by rw [TL.tl_append, tl_tx, tl_tx])
theorem tx_num (n : Nat) : Str.ofString (toString (n : Int)) = tx (TL.numL n) := str_tx (TL.tl_num n)
theorem tx_nil : Str.ofString "" = tx [] := str_tx (by decide +kernel)
theorem tx_nought : Str.ofString "0" = tx [48] := str_tx (by decide +kernel)
theorem tx_one : Str.ofString "1" = tx [49] := str_tx (by decide +kernel)
theorem tx_A : Str.ofString "A" = tx [65] := str_tx (by decide +kernel)
theorem len_ok {l : List Nat} (h : l.length ≤ 16000000) : (tx l).length ≤ sizeLine := by
  have := sizeBig
  rw [tx_len]; omega
theorem joinL_nil : ∀ ws : List (List Nat), TL.joinL [] ws = ws.flatten
  | [] => rfl
  | [x] => by show x = _; simp
  | x :: y :: ws => by
    show x ++ ([] ++ TL.joinL [] (y :: ws)) = _
    rw [joinL_nil (y :: ws)]; rfl
theorem join_flat (ws : List (List Nat)) : Txt.join (Str.ofString "") (ws.map tx) = tx ws.flatten := str_tx (by
  rw [TL.join_eq, TL.tl_join, tx_nil, tl_tx, List.map_map]
  show TL.joinL [] (ws.map fun w => w) = _
  rw [List.map_id', joinL_nil])
theorem sum_lens : ∀ ws : List (List Nat), ((ws.map tx).map (·.length)).sum = ws.flatten.length
  | [] => rfl
  | w :: ws => by
    have ih := sum_lens ws
    rw [List.map_cons, List.map_cons, List.sum_cons, ih, List.flatten_cons, List.length_append]
    show (tx w).length + _ = _
    rw [tx_len]
/-! #### runs -/
abbrev Rn := Nat × Nat
def figsT (n : Nat) : List Nat := if n = 1 then [] else TL.numL n
def wordT (r : Rn) : List Nat := figsT r.1 ++ [r.2]
def textT (rs : List Rn) : List Nat := (rs.map wordT).flatten
def signs9 : List Nat := [46, 65, 66, 67, 68, 69, 70, 71, 47]
def RnW (r : Rn) : Prop := 1 ≤ r.1 ∧ r.2 ∈ signs9
theorem numL_head : ∀ (n : Nat), 1 ≤ n → ∃ c l, TL.numL n = c :: l ∧ c ≠ 48 := fun n => by
  induction n using Nat.strongRecOn with
  | ind n ih =>
    intro h
    by_cases z : n < 10
    · exact ⟨48 + n, [], TL.numL_lt z, by omega⟩
    · obtain ⟨c, l, e, hc⟩ := ih (n / 10) (by omega) (by omega)
      exact ⟨c, l ++ [48 + n % 10], by rw [TL.numL_step (by omega), e]; rfl, hc⟩
theorem numL_one : TL.numL 1 = [49] := TL.numL_lt (by decide)
theorem figs_digits (n : Nat) : ∀ c ∈ figsT n, 48 ≤ c ∧ c ≤ 57 := fun c hc => by
  unfold figsT at hc
  split at hc
  · simp at hc
  · exact TL.numL_digits n c hc
theorem figs_len {n : Nat} (h : n < 10 ^ 13) : (figsT n).length ≤ 13 := by
  unfold figsT
  split
  · simp
  · exact TL.numL_len (by decide) h
theorem word_len {r : Rn} {k : Nat} (hk : 0 < k) (h : r.1 < 10 ^ k) : (wordT r).length ≤ k + 1 := by
  unfold wordT figsT
  rw [List.length_append, List.length_singleton]
  split
  · simp
  · have := TL.numL_len hk h
    omega
theorem sign_no {c : Nat} (h : c ∈ signs9) : ¬ (48 ≤ c ∧ c ≤ 57) := by
  simp only [signs9, List.mem_cons, List.not_mem_nil, or_false] at h
  omega
theorem text_app (a b : List Rn) : textT (a ++ b) = textT a ++ textT b := by unfold textT; rw [List.map_append, List.flatten_append]
theorem text_one (r : Rn) : textT [r] = wordT r := by unfold textT; simp
theorem text_cons (r : Rn) (rs : List Rn) : textT (r :: rs) = wordT r ++ textT rs := by unfold textT; simp
/-- neighbouring runs of one sign put together; the last one first -/
def togS : List Rn → Rn → List Rn
  | [], r => [r]
  | (a, s) :: l, r => if s = r.2 then (a + r.1, s) :: l else r :: (a, s) :: l
def togR (rs : List Rn) : List Rn := rs.foldl togS []
def tog (rs : List Rn) : List Rn := (togR rs).reverse
/-! #### lists of runs in the heap -/
def RL (H : Hp) (ts : List Addr) (rs : List Rn) : Prop := ts.length = rs.length ∧ ∀ (i : Nat) t r, ts[i]? = some t → rs[i]? = some r → H t = some (.tup [.int (r.1 : Int), .str (tx [r.2])])
theorem RL.keep {H H' : Hp} {ts : List Addr} {rs : List Rn} (h : RL H ts rs) (k : Tup H H') : RL H' ts rs := ⟨h.1, fun i t r a b => k _ _ (h.2 i t r a b)⟩
theorem RL.nil {H : Hp} : RL H [] [] := ⟨rfl, fun i t r a => by simp at a⟩
theorem RL.app {H : Hp} {ts : List Addr} {rs : List Rn} {t : Addr} {r : Rn} (h : RL H ts rs) (ht : H t = some (.tup [.int (r.1 : Int), .str (tx [r.2])])) : RL H (ts ++ [t]) (rs ++ [r]) := by
  refine ⟨by rw [List.length_append, List.length_append, h.1]; rfl, fun i u q a b => ?_⟩
  rcases snoc_get h.1 a b with ⟨a, b⟩ | ⟨_, rfl, rfl⟩
  · exact h.2 i u q a b
  · exact ht
def RnL (H : Hp) (p : Addr) (rs : List Rn) : Prop := ∃ ts : List Addr, H p = some (.lst (ts.map V.ref)) ∧ RL H ts rs
theorem RnL.same {H H' : Hp} {p : Addr} {rs : List Rn} (h : RnL H p rs) (s : Same H H') : RnL H' p rs := by
  obtain ⟨ts, h1, h2⟩ := h
  exact ⟨ts, s _ _ h1, h2.keep (Tup.of s)⟩
theorem same_put {H H' : Hp} {p : Addr} {o : HO} (s : Same H H') (hp : H p = none) : Same H (upd H' p o) := fun b u e => by
  rw [upd_ne (ne_of_none e hp)]; exact s _ _ e
theorem tup_put {H : Hp} {p : Addr} {xs : List V} {o : HO} (h : H p = some (.lst xs)) : Tup H (upd H p o) := Tup.put h o
theorem text_len {rs : List Rn} {B : Nat} (h : ∀ r ∈ rs, (wordT r).length ≤ B) : (textT rs).length ≤ rs.length * B := by
  induction rs with
  | nil => exact Nat.zero_le _
  | cons r rs ih =>
    have h1 := ih fun x hx => h x (List.mem_cons_of_mem _ hx)
    have h2 := h r List.mem_cons_self
    rw [text_cons, List.length_append, List.length_cons, Nat.succ_mul]
    omega
theorem cut_mid (A u B : List Nat) : cutS (tx (A ++ (u ++ B))) (some ((A.length : Nat) : Int)) (some ((A.length + u.length : Nat) : Int)) = tx u := by
  refine str_tx ?_
  show ((A ++ (u ++ B)).drop (HT.sIx (tx (A ++ (u ++ B))).length 0 (some ((A.length : Nat) : Int)))).take (HT.sIx (tx (A ++ (u ++ B))).length (tx (A ++ (u ++ B))).length (some ((A.length + u.length : Nat) : Int)) - HT.sIx (tx (A ++ (u ++ B))).length 0 (some ((A.length : Nat) : Int))) = u
  rw [HT.sIx_nat, HT.sIx_nat, tx_len]
  have e1 : min A.length (A ++ (u ++ B)).length = A.length := by rw [List.length_append]; omega
  have e2 : min (A.length + u.length) (A ++ (u ++ B)).length = A.length + u.length := by rw [List.length_append, List.length_append]; omega
  rw [e1, e2, List.drop_left, Nat.add_sub_cancel_left, List.take_left]
theorem mid_get (A B : List Nat) (c : Nat) : (A ++ c :: B)[A.length]? = some c := by rw [List.getElem?_append_right (Nat.le_refl _), Nat.sub_self]; rfl
theorem in_figs {c : Nat} : decide (c ∈ (Str.ofString "0123456789").cps.toList) = decide (48 ≤ c ∧ c ≤ 57) := by
  have e : (Str.ofString "0123456789").cps.toList = [48, 49, 50, 51, 52, 53, 54, 55, 56, 57] := by decide +kernel
  rw [e]
  refine decide_eq_decide.mpr ?_
  simp only [List.mem_cons, List.not_mem_nil, or_false]
  omega
theorem in_signs {c : Nat} : decide (c ∈ (Str.ofString ".ABCDEFG/").cps.toList) = decide (c ∈ signs9) := by
  have e : (Str.ofString ".ABCDEFG/").cps.toList = signs9 := by decide +kernel
  rw [e]
section
variable {P : Program} {w : World} {K : PySem.W.Frag} {mg : Str → Option Value} {base : Heap}
def sp_amount : Sp := fun vs H Q _ => ∃ n : Nat, vs = [.str (tx (figsT n))] ∧ 1 ≤ n ∧ n < 10 ^ 13 ∧ Q (.int (n : Int)) H
theorem mp_amount : MonP sp_amount := fun vs H Q Q' E h ⟨n, x1, x2, x3, q⟩ => ⟨n, x1, x2, x3, h _ _ q⟩
theorem ok_amount (T : Env fa fn K mg) : Good P w K mg base CX0 1 ("amount_of", none) ["figures"] sp_amount := by
  refine good_mk T 29 (d := d_amount_of) (N := ["figures"]) (ps := ["figures"]) rfl rfl sc_amount_of (fun _ _ _ _ _ _ us hl => match us, hl with | [_], _ => rfl) (fun vs H Q E h => ?_) (fun f cdv A outer s H vs Q E hr h => ?_)
  · obtain ⟨n, rfl, _⟩ := h; rfl
  · obtain ⟨n, rfl, h1, h2, q⟩ := h
    refine ⟨_, (pss_cons (ps_if (pt_cmpR op_eq (pv 0) pe_str (nomark _)) (pss_one (ps_ret pe_int)) pss_nil)
      (pss_cons (ps_if (PW.pt (pw_or (pt_cmpR op_gt (pe_callB call_len_str (by rfl) (T.free 4) (by decide +kernel) (pa_cons (pv 0) pa_nil)) (pe_gint (T.int 40) rfl) (nomark _)) (pw_or (pt_cmpR op_eq (pe_ix ix_str (pv 0) pe_int (fun _ _ => rfl)) pe_str (nomark _)) (pw_or1 (pt_cmpR op_eq (pv 0) pe_str (nomark _)))))) pss_never pss_nil)
      (pss_one (ps_ret (pe_callTy call_int_str (by rfl) (T.free 2) (by decide +kernel) (pa_cons (pv 0) pa_nil)))))), ?_⟩
    walk_at "rd"
    rw [tx_nil, tx_eq]
    by_cases z : n = 1
    · subst z
      have e : figsT 1 = [] := rfl
      rw [e, decide_eq_true rfl]
      walk_at "rd"
      exact q
    · have e : figsT n = TL.numL n := if_neg z
      rw [e, decide_eq_false (TL.numL_ne n)]
      have ll := TL.numL_len (k := 13) (by decide) h2
      obtain ⟨c, l, ec, hc⟩ := numL_head n h1
      walk_at "rd"
      refine ⟨_, rfl, len_ok (by omega), ?_⟩
      walk_at "rd"
      rw [tx_len, decide_eq_false (by omega)]
      walk_at "rd"
      refine ⟨_, _, c, rfl, rfl, len_ok (by omega), by show atI (TL.numL n) 0 = some c; rw [ec]; exact atI_nat (j := 0) rfl, ?_⟩
      walk_at "rd"
      have ec0 : decide ((⟨#[c]⟩ : Str) = Str.ofString "0") = false := by
        rw [tx_nought]
        show decide (tx [c] = tx [48]) = false
        rw [tx_eq]
        exact decide_eq_false fun z => hc (by cases z; rfl)
      rw [ec0]
      walk_at "rd"
      have e1 : decide (tx (TL.numL n) = Str.ofString "1") = false := by
        rw [tx_one, tx_eq, ← numL_one]
        exact decide_eq_false fun y => z (TL.numL_inj y)
      rw [e1]
      walk_at "rd"
      refine ⟨_, n, rfl, by rw [← tx_num]; exact TL.int_num (by omega), by rw [tx_len]; omega, q⟩
def sp_read : Sp := fun vs H Q _ => ∃ rs : List Rn, vs = [.str (tx (textT rs))] ∧ (∀ r ∈ rs, RnW r ∧ r.1 < 10 ^ 13) ∧ rs.length ≤ 1000 ∧
  ∀ (p : Addr) (ts : List Addr) (H' : Hp), H p = none → Same H H' → H' p = some (.lst (ts.map V.ref)) → RL H' ts rs → Q (.ref p) H'
theorem mp_read : MonP sp_read := fun vs H Q Q' E h ⟨rs, x1, x2, x3, k⟩ => ⟨rs, x1, x2, x3, fun p ts H' a b c d => h _ _ (k p ts H' a b c d)⟩
set_option maxHeartbeats 8000000 in
theorem ok_read (T : Env fa fn K mg) : Good P w K mg base CX0 2 ("read_runs", none) ["text"] sp_read := by
  have G_amount_of := ok_amount (P := P) (w := w) (base := base) T
  refine good_mk T 30 (d := d_read_runs) (N := ["text", "runs", "begin", "at", "sign"]) (ps := ["text"]) rfl rfl sc_read_runs (fun _ _ _ _ _ _ us hl => match us, hl with | [_], _ => rfl) (fun vs H Q E h => ?_) (fun f cdv A outer s H vs Q E hr h => ?_)
  · obtain ⟨rs, rfl, _⟩ := h; rfl
  · obtain ⟨rs, rfl, hw, hl, k⟩ := h
    have hL : (textT rs).length ≤ 14000 := by
      have := text_len (rs := rs) (B := 14) fun r hr => word_len (by decide) (hw r hr).2
      omega
    refine ⟨_, (pss_cons (ps_if (pt_not (pt_val (pe_callB (call_isiK K rfl) (by rfl) (T.free 1) (by decide +kernel) (pa_cons (pv 0) (pa_cons (pe_bltn (v := V.ty "str") rfl (T.free 3) (by decide +kernel) rfl) pa_nil))))) pss_never pss_nil)
      (pss_cons (ps_set (i := 1) sc_read_runs.nd rfl (Or.inl rfl) (pe_lst pa_nil))
      (pss_cons (ps_set (i := 2) sc_read_runs.nd rfl (Or.inl rfl) pe_int)
      (pss_cons (ps_for PassesOwn.never rfl (pi_enumS (by rfl) (T.free 10) (pa_cons (pv 0) pa_nil)) (pg_tup rfl (pgs_cons (pg_name (i := 3) sc_read_runs.nd rfl (Or.inl rfl)) (pgs_cons (pg_name (i := 4) sc_read_runs.nd rfl (Or.inl rfl)) pgs_nil))) (pss_cons (ps_if (pt_cmpR op_in_sign (pv 4) (pe_gstr (T.str 42) rfl) rfl) (pss_one ps_continue) pss_nil)
      (pss_cons (ps_if (pt_cmpR op_notIn_sign (pv 4) (pe_gstr (T.str 43) rfl) rfl) pss_never pss_nil)
      (pss_cons (ps_expr (pe_bm PySem.F.plainAttrs_list PySem.F.slot_list_append PySem.F.type_list_append mt_append (pv 1) (pa_cons (pe_tup (pa_cons (pe_cgK K rfl G_amount_of (hr.mono (by decide)) (T.glo 44) (pa_cons (pe_slice sl_str (pv 0) (po_some (pv 2)) (po_some (pv 3))) pa_nil)) (pa_cons (pv 4) pa_nil))) pa_nil)))
      (pss_one (ps_set (i := 2) sc_read_runs.nd rfl (Or.inl rfl) (pe_op op_add (pv 3) pe_int)))))))
      (pss_cons (ps_if (pt_cmpR op_lt (pv 2) (pe_callB call_len_str (by rfl) (T.free 4) (by decide +kernel) (pa_cons (pv 0) pa_nil)) (nomark _)) pss_never pss_nil)
      (pss_one (ps_ret (pv 1)))))))), ?_⟩
    walk_at "rd"
    refine isi_ty (.base (.str _)) (by decide +kernel : kitB "str" "str" = some true) ?_
    walk_at "rd"
    refine rd_new (hn := by show 0 ≤ sizeLine; decide) fun p hp => ?_
    have sp := same_upd (o := HO.lst []) hp
    walk_at "rd"
    refine rd_iES ?_
    walk_at "rd"
    refine ⟨_, rfl, ?_⟩
    refine for_it (walk_enumS (x := tx (textT rs))) (fun i σ H' => ∃ (l1 l2 : List Rn) (u v : List Nat) (ts : List Addr) (x3 x4 : Option V), σ = [some (.str (tx (textT rs))), some (.ref p), some (.int (((textT l1).length : Nat) : Int)), x3, x4] ∧ Same H H' ∧ H' p = some (.lst (ts.map V.ref)) ∧ RL H' ts l1 ∧ rs = l1 ++ l2 ∧
      i = (textT l1).length + u.length ∧ ((l2 = [] ∧ u = []) ∨ ∃ r l3, l2 = r :: l3 ∧ figsT r.1 = u ++ v)) ?_ (fun _ _ _ _ _ => trivial) ?_ ?_
    · refine ⟨[], rs, [], (rs.head?.map fun r => figsT r.1).getD [], [], none, none, rfl, sp, upd_same, RL.nil, rfl, rfl, ?_⟩
      cases rs with
      | nil => exact .inl ⟨rfl, rfl⟩
      | cons r l3 => exact .inr ⟨r, l3, rfl, rfl⟩
    · rintro i x σ H1 H2 hi ⟨l1, l2, u, v, ts, x3, x4, rfl, sm, hpl, hRL, hrs, hi2, hc⟩ ⟨T', c, rfl, hT', hget, rfl⟩
      have hget' : (textT rs)[i]? = some c := by simpa [tx] using hget
      have sT := same_upd (o := HO.tup [V.int (i : Int), V.str ⟨#[c]⟩]) hT'
      have hT2 : (upd H1 T' (HO.tup [V.int (i : Int), V.str ⟨#[c]⟩])) T' = some (.tup [V.int (i : Int), V.str ⟨#[c]⟩]) := upd_same
      rcases hc with ⟨rfl, rfl⟩ | ⟨r, l3, rfl, hf⟩
      · exfalso
        rw [List.append_nil] at hrs
        subst hrs
        have := (List.getElem?_eq_some_iff.mp hget').1
        simp only [List.length_nil] at hi2
        omega
      have ht : textT rs = (textT l1 ++ u) ++ (v ++ (r.2 :: textT l3)) := by
        rw [hrs, text_app, text_cons, wordT, hf]; simp
      have hir : i = (textT l1 ++ u).length := by rw [List.length_append]; exact hi2
      have hrw := hw r (by rw [hrs]; simp)
      walk_at "rd"
      refine ⟨c, _, rfl, rfl, ?_⟩
      rw [in_figs]
      cases v with
      | cons d v' =>
        rw [ht, hir, List.cons_append, mid_get] at hget'
        cases hget'
        have hd : 48 ≤ c ∧ c ≤ 57 := figs_digits r.1 c (by rw [hf]; simp)
        rw [decide_eq_true hd]
        walk_at "rd"
        exact ⟨l1, r :: l3, u ++ [c], v', ts, _, _, rfl, sm.trans sT, sT _ _ hpl, hRL.keep (Tup.of sT), hrs, by rw [List.length_append, List.length_singleton]; omega, .inr ⟨r, l3, rfl, by rw [hf]; simp⟩⟩
      | nil =>
        rw [ht, hir, List.nil_append, mid_get] at hget'
        cases hget'
        rw [decide_eq_false (sign_no hrw.1.2)]
        walk_at "rd"
        refine ⟨r.2, _, rfl, rfl, ?_⟩
        rw [in_signs, decide_eq_true hrw.1.2]
        walk_at "rd"
        have hpl2 := sT _ _ hpl
        refine rd_tyL hpl2 ?_
        walk_at "rd"
        refine ⟨_, rfl, len_ok (by omega), ?_⟩
        have ecut : cutS (tx (textT rs)) (some (((textT l1).length : Nat) : Int)) (some ((i : Nat) : Int)) = tx (figsT r.1) := by
          have e2 : textT rs = textT l1 ++ (u ++ (r.2 :: textT l3)) := by rw [ht]; simp
          rw [e2, hi2, cut_mid, hf, List.append_nil]
        rw [ecut]
        refine ⟨r.1, rfl, hrw.1.1, hrw.2, ?_⟩
        walk_at "rd"
        refine rd_new (hn := by show 2 ≤ sizeLine; decide) fun t ht' => ?_
        have st := same_upd (o := HO.tup [V.int (r.1 : Int), V.str ⟨#[r.2]⟩]) ht'
        have hpl3 := st _ _ hpl2
        walk_at "rd"
        have lrs : l1.length ≤ 1000 := by rw [hrs, List.length_append] at hl; omega
        refine rd_append hpl3 (by rw [List.length_map, hRL.1]; exact Nat.lt_of_le_of_lt lrs (by have := sizeBig; omega)) ?_
        walk_at "rd"
        have R3 := (hRL.keep (Tup.of (sT.trans st))).app (t := t) (r := r) upd_same
        refine ⟨l1 ++ [r], l3, [], (l3.head?.map fun r => figsT r.1).getD [], ts ++ [t], some (.int (i : Int)), some (.str ⟨#[r.2]⟩), ?_, same_put ((sm.trans sT).trans st) hp, by rw [upd_same, List.map_append]; rfl, R3.keep (tup_put hpl3), by rw [hrs]; simp, ?_, ?_⟩
        · have e : (((textT (l1 ++ [r])).length : Nat) : Int) = (i : Int) + 1 := by
            rw [text_app, text_one, wordT, hf, List.append_nil, List.length_append, List.length_append, List.length_singleton, hi2]; omega
          rw [e]; rfl
        · rw [text_app, text_one, wordT, hf, List.append_nil, List.length_append, List.length_append, List.length_singleton, hi2]; rfl
        · cases l3 with
          | nil => exact .inl ⟨rfl, rfl⟩
          | cons r' l4 => exact .inr ⟨r', l4, rfl, rfl⟩
    · rintro σ H' ⟨l1, l2, u, v, ts, x3, x4, rfl, sm, hpl, hRL, hrs, hi2, hc⟩
      have hsz : (tx (textT rs)).cps.size = (textT rs).length := by simp [tx]
      rcases hc with ⟨rfl, rfl⟩ | ⟨r, l3, rfl, hf⟩
      · rw [List.append_nil] at hrs
        subst hrs
        walk_at "rd"
        refine ⟨_, rfl, len_ok (by omega), ?_⟩
        walk_at "rd"
        rw [tx_len, decide_eq_false (by omega)]
        walk_at "rd"
        exact k p ts H' hp sm hpl hRL
      · exfalso
        rw [hsz, hrs, text_app, text_cons, wordT, hf, List.length_append, List.length_append, List.length_append, List.length_append, List.length_singleton] at hi2
        omega
def sp_srun : Sp := fun vs H Q _ => ∃ r : Rn, vs = [.int (r.1 : Int), .str (tx [r.2])] ∧ r.1 < 10 ^ 30 ∧ Q (.str (tx (wordT r))) H
theorem mp_srun : MonP sp_srun := fun vs H Q Q' E h ⟨r, x1, x2, q⟩ => ⟨r, x1, x2, h _ _ q⟩
theorem log30 {n : Nat} (h : n < 10 ^ 30) : ((n : Int).natAbs).log2 < 1920 := by
  rw [Int.natAbs_natCast]
  by_cases z : n = 0
  · subst z; decide
  · exact (Nat.log2_lt z).mpr (Nat.lt_trans h (by decide +kernel))
theorem tog_step (rs : List Rn) (i : Nat) (r : Rn) (h : rs[i]? = some r) : togR (rs.take (i + 1)) = togS (togR (rs.take i)) r := by
  unfold togR
  rw [List.take_succ, h, List.foldl_append]; rfl
def TogOk (B : Nat) (R : List Rn) : Prop := ∀ r ∈ R, RnW r ∧ r.1 ≤ B
theorem togS_eq {a s : Nat} {l : List Rn} {r : Rn} (h : s = r.2) : togS ((a, s) :: l) r = (a + r.1, s) :: l := if_pos h
theorem togS_ne {a s : Nat} {l : List Rn} {r : Rn} (h : ¬ s = r.2) : togS ((a, s) :: l) r = r :: (a, s) :: l := if_neg h
theorem TogOk.step {B : Nat} {R : List Rn} {r : Rn} (h : TogOk B R) (hr : RnW r) (hb : r.1 ≤ 10 ^ 13) : TogOk (B + 10 ^ 13) (togS R r) := by
  cases R with
  | nil =>
    intro q hq
    have e : q = r := List.mem_singleton.mp hq
    subst e
    exact ⟨hr, by omega⟩
  | cons x l =>
    obtain ⟨a, s⟩ := x
    have hx := h (a, s) List.mem_cons_self
    obtain ⟨⟨x1, x2⟩, x3⟩ := hx
    simp only at x1 x2 x3
    have hl : ∀ q ∈ l, RnW q ∧ q.1 ≤ B + 10 ^ 13 := fun q hq => ⟨(h q (List.mem_cons_of_mem _ hq)).1, by have := (h q (List.mem_cons_of_mem _ hq)).2; omega⟩
    by_cases z : s = r.2
    · rw [togS_eq z]
      intro q hq
      rcases List.mem_cons.mp hq with e | hq
      · rw [e]
        exact ⟨⟨by show 1 ≤ a + r.1; omega, x2⟩, by show a + r.1 ≤ _; omega⟩
      · exact hl q hq
    · rw [togS_ne z]
      intro q hq
      rcases List.mem_cons.mp hq with e | hq
      · rw [e]; exact ⟨hr, by omega⟩
      · rcases List.mem_cons.mp hq with e | hq
        · rw [e]; exact ⟨⟨x1, x2⟩, by show a ≤ _; omega⟩
        · exact hl q hq
theorem togS_len (R : List Rn) (r : Rn) : (togS R r).length ≤ R.length + 1 := by
  cases R with
  | nil => exact Nat.le_refl _
  | cons x l =>
    obtain ⟨a, s⟩ := x
    by_cases z : s = r.2
    · rw [togS_eq z]; simp
    · rw [togS_ne z]; simp
def amtR (R : List Rn) : Nat := (R.head?.map (·.1)).getD 0
def sgnR (R : List Rn) : List Nat := (R.head?.map fun r => [r.2]).getD []
theorem rd_aug {D : Ends} {σ : L2.St} {H : Hp} {i : Nat} {te : TE} {ti : TIp} {v : V} (h1 : σ[i]? = some (some v)) (h : te σ H fun y H1 => ti v y H1 fun z H2 => D.nx (σ.set i (some z)) H2) : tAug i te ti D σ H := ⟨v, h1, h⟩
theorem rd_m1 {σ : L2.St} {H : Hp} {Q : VK} {r : V → List V → Hp → VK → Prop} {ta tb : TE} (h : ta σ H fun x H1 => (∃ a, x = .str a) ∧ tb σ H1 fun y H2 => r x [y] H2 Q) : tM1 r ta tb σ H Q := h
theorem rd_st {z : Str} {R : Prop} (h : R) : (∃ a, V.str z = .str a) ∧ R := ⟨⟨z, rfl⟩, h⟩
def sp_shown : Sp := fun vs H Q _ => ∃ (p : Addr) (rs : List Rn), vs = [.ref p] ∧ RnL H p rs ∧ (∀ r ∈ rs, RnW r ∧ r.1 < 10 ^ 13) ∧ rs.length ≤ 13000 ∧ ∀ H', Same H H' → Q (.str (tx (textT (tog rs)))) H'
theorem mp_shown : MonP sp_shown := fun vs H Q Q' E h ⟨p, rs, x1, x2, x3, x4, k⟩ => ⟨p, rs, x1, x2, x3, x4, fun H' a => h _ _ (k H' a)⟩
end
end JF

/-! ### whole numbers read (as in K01) -/
namespace JF
open PySem PySem.Spec PyProof.Rows L2
/-! #### the plain law: which texts write a whole number -/
def figsOf (L : List Nat) : List Nat := if L.head? = some 45 then L.tail else L
def okW (L : List Nat) : Prop := figsOf L ≠ [] ∧ (figsOf L).length ≤ 30 ∧ (∀ c ∈ figsOf L, 48 ≤ c ∧ c ≤ 57) ∧ ((figsOf L).head? = some 48 → L = [48])
def dig (l : List Nat) : Nat := NumText.digitsVal l
def valW (L : List Nat) : Int := if L.head? = some 45 then -((dig (figsOf L) : Nat) : Int) else ((dig (figsOf L) : Nat) : Int)
theorem dig_snoc (l : List Nat) (c : Nat) : dig (l ++ [c]) = dig l * 10 + (c - 48) := by
  unfold dig NumText.digitsVal
  rw [List.foldl_append]; rfl
theorem fold_lt : ∀ (l : List Nat) (a : Nat), (∀ c ∈ l, 48 ≤ c ∧ c ≤ 57) → l.foldl (fun acc c => acc * 10 + (c - 48)) a + 1 ≤ (a + 1) * 10 ^ l.length
  | [], a, _ => by simp
  | c :: l, a, h => by
    have h1 := fold_lt l (a * 10 + (c - 48)) fun x hx => h x (List.mem_cons_of_mem _ hx)
    have h2 := h c List.mem_cons_self
    rw [List.foldl_cons, List.length_cons, Nat.pow_succ]
    refine Nat.le_trans h1 ?_
    have e : (a + 1) * (10 ^ l.length * 10) = ((a + 1) * 10) * 10 ^ l.length := by rw [Nat.mul_comm (10 ^ l.length) 10, Nat.mul_assoc]
    rw [e]
    exact Nat.mul_le_mul_right _ (by omega)
theorem dig_lt (l : List Nat) (h : ∀ c ∈ l, 48 ≤ c ∧ c ≤ 57) : dig l < 10 ^ l.length := by
  have := fold_lt l 0 h
  unfold dig NumText.digitsVal
  omega
theorem reads {L : List Nat} (h : okW L) : intText? (tx L) = some (valW L) := by
  obtain ⟨h1, h2, h3, h4⟩ := h
  unfold valW
  by_cases z : L.head? = some 45
  · have e : figsOf L = L.tail := if_pos z
    rw [if_pos z]
    rw [e] at h1 h2 h3 ⊢
    cases L with
    | nil => cases z
    | cons c l =>
      cases z
      exact intText_neg (x := tx (45 :: l)) (cs := l) rfl h3 h1 (by rw [tx_len]; simp only [List.length_cons, List.tail_cons] at h2 ⊢; omega)
  · have e : figsOf L = L := if_neg z
    rw [if_neg z]
    rw [e] at h1 h2 h3 ⊢
    exact intText_digits (x := tx L) h3 h1 (by rw [tx_len]; omega)
theorem starts_minus (L : List Nat) : Txt.startswith (tx L) (Str.ofString "-") = decide (L.head? = some 45) := by
  have e : Str.ofString "-" = tx [45] := str_tx (by decide +kernel)
  rw [e]
  unfold Txt.startswith
  rw [StrLaws.subAt_eq, tx_len, tx_len]
  show (decide (0 + 1 ≤ L.length) && ((L.drop 0).take ([45] : List Nat).length == [45])) = _
  cases L with
  | nil => rfl
  | cons c l =>
    show (decide (0 + 1 ≤ l.length + 1) && ([c] == [45])) = decide (some c = some 45)
    rw [decide_eq_true (by omega), Bool.true_and]
    by_cases z : c = 45
    · subst z; rfl
    · rw [decide_eq_false (by simpa using z)]
      simp [z]
theorem cut_from (L : List Nat) (a : Nat) : cutS (tx L) (some (a : Int)) none = tx (L.drop a) := by
  refine str_tx ?_
  show ((L.drop (HT.sIx (tx L).length 0 (some (a : Int)))).take (HT.sIx (tx L).length (tx L).length none - HT.sIx (tx L).length 0 (some (a : Int)))) = L.drop a
  rw [HT.sIx_nat, HT.sIx_none, tx_len]
  by_cases z : a ≤ L.length
  · rw [Nat.min_eq_left z]
    exact List.take_of_length_le (by rw [List.length_drop]; omega)
  · rw [Nat.min_eq_right (by omega), List.drop_of_length_le (by omega), List.drop_of_length_le (by omega)]; simp
theorem cut_to (L : List Nat) (b : Nat) : cutS (tx L) none (some (b : Int)) = tx (L.take b) := by
  refine str_tx ?_
  show ((L.drop (HT.sIx (tx L).length 0 none)).take (HT.sIx (tx L).length (tx L).length (some (b : Int)) - HT.sIx (tx L).length 0 none)) = L.take b
  rw [HT.sIx_nat, HT.sIx_none, tx_len, List.drop_zero, Nat.sub_zero]
  by_cases z : b ≤ L.length
  · rw [Nat.min_eq_left z]
  · rw [Nat.min_eq_right (by omega), List.take_of_length_le (Nat.le_refl _), List.take_of_length_le (by omega)]
theorem find_fig {c : Nat} (h : 48 ≤ c ∧ c ≤ 57) : Txt.find (Str.ofString "0123456789") ⟨#[c]⟩ = ((c - 48 : Nat) : Int) := by
  have all : ∀ d : Fin 10, Txt.find (Str.ofString "0123456789") ⟨#[48 + d.val]⟩ = ((d.val : Nat) : Int) := by decide +kernel
  have := all ⟨c - 48, by omega⟩
  simp only at this
  rw [show 48 + (c - 48) = c by omega] at this
  exact this
theorem mm_starts : MonM (fun x xs H Q => ∃ a b, x = .str a ∧ xs = [.str b] ∧ Q (.bl (Txt.startswith a b)) H) := fun x y H Q Q' h ⟨a, b, e1, e2, q⟩ => ⟨a, b, e1, e2, h _ _ q⟩
theorem mr_sl : MonL rSlS := fun x lo hi H Q Q' h ⟨z, e1, e2, q⟩ => ⟨z, e1, e2, h _ _ q⟩
theorem mc_lenS : MonC (fun xs H Q => ∃ z : Str, xs = [.str z] ∧ z.length ≤ sizeLine ∧ Q (.int z.length) H) := fun x H Q Q' h ⟨z, e1, e2, q⟩ => ⟨z, e1, e2, h _ _ q⟩
theorem mr_addS : MonR (fun x y H Q => ∃ i j : Str, x = .str i ∧ y = .str j ∧ i.length + j.length ≤ sizeLine ∧ Q (.str (i ++ j)) H) := fun x y H Q Q' h ⟨i, j, e1, e2, e3, q⟩ => ⟨i, j, e1, e2, e3, h _ _ q⟩
theorem fig_in {c : Nat} : decide (c ∈ (Str.ofString "0123456789").cps.toList) = decide (48 ≤ c ∧ c ≤ 57) := in_figs
/-- what is no text -/
def NoTx (H : Hp) (x : V) : Prop := (∃ i, x = .int i) ∨ x = .non ∨ ∃ p xs, x = .ref p ∧ H p = some (.lst xs)
section
variable {P : Program} {w : World} {K : PySem.W.Frag} {mg : Str → Option Value} {base : Heap}
def sp_rw (K : PySem.W.Frag) : Sp := fun vs H Q E => ∃ x : V, vs = [x] ∧ ((∃ L, x = .str (tx L) ∧ L.length ≤ 1000 ∧ (okW L → Q (.int (valW L)) H) ∧ (¬ okW L → E (.ref (He.ga K "NoNumber")) none H)) ∨ (NoTx H x ∧ E (.ref (He.ga K "NoNumber")) none H))
set_option maxHeartbeats 8000000 in
theorem okX_rw (T : Env fa fn K mg) : Good P w K mg base (L2N.CX P w) 1 ("read_whole", none) ["text"] (sp_rw K) := by
  refine good_mkX T 1 (d := d_read_whole) (N := ["text", "figures", "sign"]) (ps := ["text"]) rfl rfl sc_read_whole (fun _ _ _ _ _ _ us hl => match us, hl with | [_], _ => rfl) (fun vs H Q E h => ?_) (fun f cdv A outer s H vs Q E hr h => ?_)
  · obtain ⟨x, rfl, _⟩ := h; rfl
  · obtain ⟨x, rfl, h⟩ := h
    have hsz := sizeBig
    refine ⟨_, (pss_cons (ps_if (pt_not (pt_val (pe_callB (call_isiK K rfl) (by rfl) (T.free 1) (by decide +kernel) (pa_cons (pv 0) (pa_cons (pe_bltn (v := V.ty "str") rfl (T.free 3) (by decide +kernel) rfl) pa_nil))))) (pss_one (ps_raiseT K rfl (T.exf (List.mem_of_getElem? (i := 0) rfl)) (T.glo 7) rfl (L2N.takes_of rfl rfl rfl rfl) rfl)) pss_nil)
      (pss_cons (ps_set (i := 1) sc_read_whole.nd rfl (Or.inl rfl) (pv 0))
      (pss_cons (ps_if (pt_val (pe_m1 PySem.F.slot_str_startswith PySem.F.type_str_startswith mt_startswith (pv 0) pe_str)) (pss_one (ps_set (i := 1) sc_read_whole.nd rfl (Or.inl rfl) (pe_slice sl_str (pv 0) (po_some pe_int) po_none))) pss_nil)
      (pss_cons (ps_if (PW.pt (pw_or (pt_cmpR op_eq (pv 1) pe_str (nomark _)) (pw_or1 (pt_cmpR op_gt (pe_callB call_len_str (by rfl) (T.free 4) (by decide +kernel) (pa_cons (pv 1) pa_nil)) (pe_gint (T.int 5) rfl) (nomark _))))) (pss_one (ps_raiseT K rfl (T.exf (List.mem_of_getElem? (i := 0) rfl)) (T.glo 7) rfl (L2N.takes_of rfl rfl rfl rfl) rfl)) pss_nil)
      (pss_cons (ps_for (passes_of rfl) rfl (pi_str (pv 1)) (pg_name (i := 2) sc_read_whole.nd rfl (Or.inl rfl)) (pss_one (ps_if (pt_cmpR op_notIn_sign (pv 2) (pe_gstr (T.str 6) rfl) rfl) (pss_one (ps_raiseT K rfl (T.exf (List.mem_of_getElem? (i := 0) rfl)) (T.glo 7) rfl (L2N.takes_of rfl rfl rfl rfl) rfl)) pss_nil)))
      (pss_cons (ps_if (PW.pt (pw_and (pt_cmpR op_eq (pe_ix ix_str (pv 1) pe_int (fun _ _ => rfl)) pe_str (nomark _)) (pw_and1 (pt_cmpR op_ne (pv 0) pe_str (nomark _))))) (pss_one (ps_raiseT K rfl (T.exf (List.mem_of_getElem? (i := 0) rfl)) (T.glo 7) rfl (L2N.takes_of rfl rfl rfl rfl) rfl)) pss_nil)
      (pss_one (ps_ret (pe_callTy call_int_str (by rfl) (T.free 2) (by decide +kernel) (pa_cons (pv 0) pa_nil)))))))))), ?_⟩
    rcases h with ⟨L, rfl, hL, hy, hn⟩ | ⟨hx, q⟩
    · walk_at "rd"
      refine isi_ty (.base (.str _)) (by decide +kernel : kitB "str" "str" = some true) ?_
      walk_at "rhi"
      refine rd_cut (fun σ H' => H' = H ∧ σ = [some (.str (tx L)), some (.str (tx (figsOf L))), none]) (by
        have := mm_starts
        have := mr_sl
        walk_at "mono") ?_ ?_
      · walk_at "rd"
        refine rd_m1 ?_
        walk_at "rd"
        refine rd_st ?_
        walk_at "rd"
        refine ⟨_, _, rfl, rfl, ?_⟩
        rw [starts_minus]
        walk_at "rd"
        refine ite_d (fun z => ?_) (fun z => ?_)
        · walk_at "rd"
          refine ⟨_, rfl, len_ok (by omega), ?_⟩
          walk_at "rd"
          refine ⟨rfl, ?_⟩
          have e : figsOf L = L.drop 1 := by unfold figsOf; rw [if_pos z]; exact (List.drop_one).symm
          rw [e]
          have e2 := cut_from L 1
          rw [show (((1 : Nat) : Int)) = 1 from rfl] at e2
          rw [e2]; rfl
        · walk_at "rd"
          refine ⟨rfl, ?_⟩
          have e : figsOf L = L := if_neg z
          rw [e]; rfl
      rintro σ H1 ⟨rfl, rfl⟩
      have hF : (figsOf L).length ≤ L.length ∧ L.length ≤ (figsOf L).length + 1 := by unfold figsOf; split <;> simp <;> omega
      walk_at "rd"
      rw [tx_nil, tx_eq]
      refine ite_d (fun z => ?_) (fun z => ?_)
      · walk_at "rd"
        exact rd_raise (hn fun ok => ok.1 z)
      walk_at "rd"
      refine ⟨_, rfl, len_ok (by omega), ?_⟩
      walk_at "rd"
      rw [tx_len]
      refine ite_d (fun z2 => ?_) (fun z2 => ?_)
      · walk_at "rd"
        exact rd_raise (hn fun ok => by have := ok.2.1; omega)
      walk_at "rd"
      refine ⟨_, rfl, ?_⟩
      refine for_it (walk_str (z := tx (figsOf L))) (fun i σ H' => H' = H1 ∧ (∀ c ∈ (figsOf L).take i, 48 ≤ c ∧ c ≤ 57) ∧ ∃ x2 : Option V, σ = [some (.str (tx L)), some (.str (tx (figsOf L))), x2]) ⟨rfl, fun c h => by simp at h, none, rfl⟩ (fun _ _ _ _ _ => trivial) ?_ ?_
      · rintro i v σ Ha Hb hi ⟨rfl, hd, x2, rfl⟩ ⟨rfl, c, hc, rfl⟩
        have hc' : (figsOf L)[i]? = some c := by simpa [tx] using hc
        walk_at "rd"
        refine ⟨c, _, rfl, rfl, ?_⟩
        rw [fig_in]
        walk_at "rd"
        refine ite_nd (fun z3 => ?_) (fun z3 => ?_)
        · walk_at "rd"
          exact rd_raise (hn fun ok => z3 (ok.2.2.1 c (List.mem_of_getElem? hc')))
        · walk_at "rd"
          refine ⟨rfl, fun d hd' => ?_, _, rfl⟩
          rw [List.take_succ, hc'] at hd'
          rcases List.mem_append.mp hd' with m | m
          · exact hd d m
          · have e : d = c := by simpa using m
            rw [e]; exact z3
      · rintro σ H' ⟨rfl, hd, x2, rfl⟩
        have hall : ∀ c ∈ figsOf L, 48 ≤ c ∧ c ≤ 57 := by
          have e : (figsOf L).take (tx (figsOf L)).cps.size = figsOf L := List.take_of_length_le (by simp [tx])
          rw [e] at hd
          exact hd
        obtain ⟨c0, l0, e0⟩ : ∃ c l, figsOf L = c :: l := by
          cases e : figsOf L with
          | nil => exact absurd e z
          | cons c l => exact ⟨c, l, rfl⟩
        have fin : ((figsOf L).head? = some 48 → L = [48]) → okW L := fun h => ⟨z, by omega, hall, h⟩
        walk_at "rd"
        refine ⟨_, _, c0, rfl, rfl, len_ok (by omega), by show atI (figsOf L) 0 = some c0; rw [e0]; exact atI_nat (j := 0) rfl, ?_⟩
        walk_at "rd"
        rw [tx_nought]
        have e1 : decide ((⟨#[c0]⟩ : Str) = tx [48]) = decide (c0 = 48) := by
          show decide (tx [c0] = tx [48]) = _
          rw [tx_eq]
          exact decide_eq_decide.mpr (by simp)
        rw [e1]
        by_cases z4 : c0 = 48
        · rw [decide_eq_true z4]
          walk_at "rd"
          rw [tx_eq]
          refine ite_nd (fun z5 => ?_) (fun z5 => ?_)
          · walk_at "rd"
            exact rd_raise (hn fun ok => z5 (ok.2.2.2 (by rw [e0, z4]; rfl)))
          · walk_at "rd"
            have ok := fin fun _ => z5
            exact ⟨_, valW L, rfl, reads ok, by rw [tx_len]; omega, hy ok⟩
        · rw [decide_eq_false z4]
          walk_at "rd"
          have ok := fin fun h => absurd (by rw [e0] at h; exact Option.some.inj h) z4
          exact ⟨_, valW L, rfl, reads ok, by rw [tx_len]; omega, hy ok⟩
    · walk_at "rd"
      rcases hx with ⟨i, rfl⟩ | rfl | ⟨p, xs, rfl, hp⟩
      · refine isi_ty (.base (.int i)) (by decide +kernel : kitB "int" "str" = some false) ?_
        walk_at "rd"
        exact rd_raise q
      · refine isi_ty (.base .non) (by decide +kernel : kitB "NoneType" "str" = some false) ?_
        walk_at "rd"
        exact rd_raise q
      · refine isi_ty (.base (.lst hp)) (by decide +kernel : kitB "list" "str" = some false) ?_
        walk_at "rd"
        exact rd_raise q
end
end JF

/-! ### f-strings; whole numbers as texts -/
namespace JF
open PySem PySem.Spec PyProof.Rows L2
def tJn (ts : List TE) : TE := fun σ H Q => tJs ts Str.empty σ H fun out H1 => Q (.str out) H1
theorem pe_jn {X : Cx} {v1 v2 : Expr} {rest : List Expr} {ts : List TE} {pos : Pos} (h : PJ X (v1 :: v2 :: rest) ts) : PE X (.JoinedStr (v1 :: v2 :: rest) pos) (tJn ts) := pe_joined h
/-- the text of a whole number -/
def numT (i : Int) : List Nat := if i < 0 then 45 :: TL.numL i.natAbs else TL.numL i.natAbs
theorem tx_int (i : Int) : Str.ofString (toString i) = tx (numT i) := by
  unfold numT
  by_cases h : i < 0
  · rw [if_pos h, PyProof.Rows.toString_neg h]
    have e : (0 : Int) - i = ((i.natAbs : Nat) : Int) := by omega
    rw [e]
    refine str_tx ?_
    have e1 := TL.tl_num i.natAbs
    show (Str.ofString ("-" ++ toString ((i.natAbs : Nat) : Int))).cps.toList = _
    have e2 : (Str.ofString (toString ((i.natAbs : Nat) : Int))).cps.toList = TL.numL i.natAbs := e1
    rw [Str.ofString_eq_toList] at e2 ⊢
    rw [String.toList_append, List.map_append]
    show _ = ([45] : List Nat) ++ TL.numL i.natAbs
    rw [← e2]
    rfl
  · rw [if_neg h]
    have e : i = ((i.natAbs : Nat) : Int) := by omega
    rw [show toString i = toString ((i.natAbs : Nat) : Int) by rw [← e]]
    exact tx_num _
theorem numT_signs (i : Int) : ∀ c ∈ numT i, c = 45 ∨ (48 ≤ c ∧ c ≤ 57) := fun c hc => by
  unfold numT at hc
  split at hc
  · rcases List.mem_cons.mp hc with h | h
    · exact .inl h
    · exact .inr (TL.numL_digits _ c h)
  · exact .inr (TL.numL_digits _ c hc)
theorem numT_ok {i : Int} (h : i.natAbs < 10 ^ 30) : okW (numT i) ∧ valW (numT i) = i := by
  have ln := TL.numL_len (n := i.natAbs) (k := 30) (by decide) h
  have dg := TL.numL_digits i.natAbs
  have nh : ∀ l : List Nat, l = TL.numL i.natAbs → l.head? ≠ some 45 := fun l e z => by
    subst e
    have m : (45 : Nat) ∈ TL.numL i.natAbs := List.mem_of_head? z
    have := dg 45 m
    omega
  unfold numT
  by_cases c : i < 0
  · rw [if_pos c]
    obtain ⟨d, l, e, hd⟩ := numL_head i.natAbs (by omega)
    have ef : figsOf (45 :: TL.numL i.natAbs) = TL.numL i.natAbs := rfl
    refine ⟨⟨by rw [ef]; exact TL.numL_ne _, by rw [ef]; exact ln, by rw [ef]; exact dg, fun z => ?_⟩, ?_⟩
    · rw [ef, e] at z
      exact absurd (Option.some.inj z) hd
    · show -((dig (figsOf (45 :: TL.numL i.natAbs)) : Nat) : Int) = i
      rw [ef]
      have := TL.numL_val i.natAbs
      unfold dig
      rw [this]
      omega
  · rw [if_neg c]
    have ef : figsOf (TL.numL i.natAbs) = TL.numL i.natAbs := if_neg (nh _ rfl)
    refine ⟨⟨by rw [ef]; exact TL.numL_ne _, by rw [ef]; exact ln, by rw [ef]; exact dg, fun z => ?_⟩, ?_⟩
    · rw [ef] at z
      rcases Nat.eq_zero_or_pos i.natAbs with e0 | e0
      · rw [e0]; exact TL.numL_lt (by decide)
      · obtain ⟨d, l, e, hd⟩ := numL_head i.natAbs e0
        rw [e] at z
        exact absurd (Option.some.inj z) hd
    · unfold valW
      rw [if_neg (nh _ rfl), ef]
      have := TL.numL_val i.natAbs
      unfold dig
      rw [this]
      omega
theorem numT_len {i : Int} {k : Nat} (hk : 0 < k) (h : i.natAbs < 10 ^ k) : (numT i).length ≤ k + 1 := by
  have := TL.numL_len (n := i.natAbs) hk h
  unfold numT
  split
  · rw [List.length_cons]; omega
  · omega
/-- the signs of minus ahead taken off -/
theorem lstrip_len (L : List Nat) : (Txt.lstripChars (tx L) (Str.ofString "-")).length = L.length - (L.takeWhile fun c => c == 45).length := by
  have e : Txt.lstripChars (tx L) (Str.ofString "-") = PySem.W.stripped (Str.ofString "-").cps.contains true false (tx L) := PySem.W.stripBy_eq _ _ _ _
  rw [e]
  have e1 : (Str.ofString "-").cps.contains = fun c => c == 45 := by
    funext c
    have : (Str.ofString "-").cps = #[45] := by decide +kernel
    rw [this]
    show #[45].contains c = _
    rw [Array.contains_eq_any_beq]
    simp [BEq.comm]
  rw [e1]
  show (Builtin.Str.strSub (tx L) (L.takeWhile fun c => c == 45).length (tx L).length).length = _
  rw [tx_len]
  have := (L.takeWhile_sublist fun c => c == 45).length_le
  show ((L.toArray).extract (L.takeWhile fun c => c == 45).length L.length).size = _
  rw [Array.size_extract]
  simp
theorem lstrip_num {i : Int} {k : Nat} (hk : 0 < k) (h : i.natAbs < 10 ^ k) : (Txt.lstripChars (tx (numT i)) (Str.ofString "-")).length ≤ k := by
  rw [lstrip_len]
  have := TL.numL_len (n := i.natAbs) hk h
  unfold numT
  by_cases c : i < 0
  · rw [if_pos c, List.takeWhile_cons_of_pos (by rfl), List.length_cons, List.length_cons]
    omega
  · rw [if_neg c]
    omega
/-! #### readings of f-strings -/
section
variable {σ : L2.St} {H : Hp} {A B : List Nat} {ts : List TE} {R : Str → Hp → Prop}
theorem rd_jn {Q : VK} (h : tJs ts (tx []) σ H fun out H1 => Q (.str out) H1) : tJn ts σ H Q := h
theorem rd_jC {z : Str} (e : z = tx B) (hl : (A ++ B).length ≤ 16000000) (h : tJs ts (tx (A ++ B)) σ H R) : tJs (tC (.str z) :: ts) (tx A) σ H R := by
  subst e
  exact ⟨tx B, rfl, by rw [tx_app]; exact len_ok hl, by rw [tx_app]; exact h⟩
theorem rd_jF {k : Nat} {i : Int} (e : σ[k]? = some (some (.int i))) (h30 : i.natAbs < 10 ^ 30) (hl : (A ++ numT i).length ≤ 16000000) (h : tJs ts (tx (A ++ numT i)) σ H R) : tJs (tFmt (tVar k) :: ts) (tx A) σ H R := by
  refine ⟨_, e, .inr ⟨i, rfl, ?_, tx (numT i), ?_, by rw [tx_app]; exact len_ok hl, by rw [tx_app]; exact h⟩⟩
  · have := log30 (n := i.natAbs) h30
    rw [Int.natAbs_natCast] at this
    exact this
  · rw [← tx_int]
theorem rd_jS {k : Nat} (e : σ[k]? = some (some (.str (tx B)))) (hl : (A ++ B).length ≤ 16000000) (h : tJs ts (tx (A ++ B)) σ H R) : tJs (tFmt (tVar k) :: ts) (tx A) σ H R := by
  have hb : B.length ≤ 16000000 := by rw [List.length_append] at hl; omega
  exact ⟨_, e, .inl ⟨tx B, rfl, len_ok hb, tx B, rfl, by rw [tx_app]; exact len_ok hl, by rw [tx_app]; exact h⟩⟩
theorem rd_j0 (h : R (tx A) H) : tJs [] (tx A) σ H R := h
end
end JF

/-! ### patterns read: the plain law -/
namespace JF
open PySem PySem.Spec PyProof.Rows L2 NdefX LamX
/-- a row of cells: its place, its length, its state -/
abbrev Strip : Type := Int × Int × Int × Int
def strips (left : Int) : Int → Int → List Rn → List Strip
  | _, _, [] => []
  | x, y, r :: rs => if r.2 = 47 then strips left left (y + r.1) rs else if r.2 = 46 then strips left (x + r.1) y rs else (x, y, (r.1 : Int), (r.2 : Int) - 64) :: strips left (x + r.1) y rs
def layS (f : Int → Int → Int) : List Strip → Int → Int → Int
  | [] => f
  | s :: r => layS (fun u v => if s.1 ≤ u ∧ u < s.1 + s.2.2.1 ∧ s.2.1 ≤ v ∧ v < s.2.1 + 1 then s.2.2.2 else f u v) r
def StripIn (s : Strip) : Prop := -1099511627776 ≤ s.1 ∧ s.1 + s.2.2.1 ≤ 1099511627776 ∧ -1099511627776 ≤ s.2.1 ∧ s.2.1 + 1 ≤ 1099511627776
theorem layS_snoc : ∀ (l : List Strip) (f : Int → Int → Int) (s : Strip) (u v : Int), layS f (l ++ [s]) u v = if s.1 ≤ u ∧ u < s.1 + s.2.2.1 ∧ s.2.1 ≤ v ∧ v < s.2.1 + 1 then s.2.2.2 else layS f l u v
  | [], _, _, _, _ => rfl
  | _ :: l, _, s, u, v => layS_snoc l _ s u v
def endsS (l : List Strip) : List Int := l.flatMap fun s => [s.1, s.1 + s.2.2.1]
theorem endsS_len : ∀ l : List Strip, (endsS l).length = 2 * l.length
  | [] => rfl
  | s :: l => by
    have := endsS_len l
    unfold endsS at this ⊢
    rw [List.flatMap_cons, List.length_append, this]
    simp only [List.length_cons, List.length_nil]
    omega
/-- each strip has few places, or there are few strips -/
def RowN (l : List Strip) (N : Nat) : Prop := (∀ s ∈ l, s.2.2.1 + 1 ≤ (N : Int)) ∨ 4 * l.length + 1 ≤ N
theorem plx_layS : ∀ (l : List Strip) (f : Int → Int → Int) (xs : List Int), PlX f xs → (∀ b ∈ endsS l, b ∈ xs) → PlX (layS f l) xs
  | [], _, _, h, _ => h
  | s :: l, f, xs, h, hb => by
    unfold endsS at hb
    rw [List.flatMap_cons] at hb
    exact plx_layS l _ xs (h.box (hb _ (by simp)) (hb _ (by simp))) fun b m => hb b (List.mem_append_right _ m)
theorem few_strip {S : Sq} {d r : List Strip} {s : Strip} {N : Nat} (h : RowN (d ++ s :: r) N) (hv : ∀ u v, S.val u v = layS (fun _ _ => 0) d u v) : FewP S s.1 s.2.1 s.2.2.1 1 N := by
  rcases h with h | h
  · exact few_small (h s (List.mem_append_right _ List.mem_cons_self))
  · have m : ∀ b, b = s.1 ∨ b = s.1 + s.2.2.1 → b ∈ endsS (d ++ [s]) := fun b e => by
      unfold endsS
      rw [List.flatMap_append]
      refine List.mem_append_right _ ?_
      simp only [List.flatMap_cons, List.flatMap_nil, List.append_nil, List.mem_cons, List.not_mem_nil, or_false]
      exact e
    have p : PlX S.val (endsS (d ++ [s])) := (plx_layS d (fun _ _ => 0) _ (PlX.const 0 _) fun b hb => by
      unfold endsS at hb ⊢
      rw [List.flatMap_append]
      exact List.mem_append_left _ hb).congr hv
    refine few_plain p (m _ (.inl rfl)) (m _ (.inr rfl)) ?_
    rw [endsS_len, List.length_append, List.length_singleton]
    rw [List.length_append, List.length_cons] at h
    omega
section
variable {P : Program} {w : World} {K : PySem.W.Frag} {mg : Str → Option Value} {base : Heap}
theorem GAt.keep4 {C : Addr} {H H' : Hp} {a : GA} {rows : List (Int × Addr)} {q : List Sq} (G : GAt C H a rows q) (k : ∀ b o, H b = some o → (b = a.g ∨ (∃ xs, o = .tup xs) ∨ b ∈ a.muts rows) → H' b = some o) : GAt C H' a rows q := by
  obtain ⟨tups, mk, spt, D⟩ := G.da
  have mem : ∀ b, b ∈ a.m5 → b ∈ a.muts rows := fun b h => List.mem_append_left _ h
  refine ⟨k _ _ G.ob (.inl rfl), ⟨tups, mk, spt, k _ _ D.hn (.inr (.inr (mem _ (by simp [GA.m5])))), k _ _ D.hm (.inr (.inr (mem _ (by simp [GA.m5])))), k _ _ D.hl (.inr (.inr (mem _ (by simp [GA.m5])))), k _ _ D.hv (.inr (.inr (mem _ (by simp [GA.m5])))), k _ _ D.hs (.inr (.inr (mem _ (by simp [GA.m5])))), D.lt, D.lm, D.ls,
    fun i t m h1 h2 => k _ _ (D.tu i t m h1 h2) (.inr (.inl ⟨_, rfl⟩)), fun i v S h1 h2 => (D.sp i v S h1 h2).keep fun b xs e => k _ _ e (.inr (.inl ⟨_, rfl⟩)), D.md⟩, G.wf, G.qn, k _ _ G.pl (.inr (.inr (by simp [GA.muts]))), G.nd, G.rn, G.rs, fun s b h => ?_⟩
  obtain ⟨ns, h1, h2⟩ := G.ro s b h
  refine ⟨ns, k _ _ h1 (.inr (.inr ?_)), h2⟩
  unfold GA.muts
  exact List.mem_append_right _ (List.mem_cons_of_mem _ (List.mem_map_of_mem (f := fun sa : Int × Addr => sa.2) h))
/-- another instance is changed -/
theorem GAt.updI {C C' : Addr} {H : Hp} {a : GA} {rows : List (Int × Addr)} {q : List Sq} {p dx : Addr} {fs : List (Str × V)} (G : GAt C H a rows q) (hp : H p = some (.ins C' dx fs)) (hg : p ≠ a.g) (hn : p ∉ a.muts rows) (o : HO) : GAt C (L2.upd H p o) a rows q :=
  G.keep4 fun b u e z => by
    rw [upd_ne]
    · exact e
    · rintro rfl
      rcases z with z | ⟨xs, z⟩ | z
      · exact hg z
      · subst z; rw [hp] at e; cases e
      · exact hn z
theorem FStep.put {C C' : Addr} {H H1 : Hp} {a : GA} {rows r1 : List (Int × Addr)} {q q1 : List Sq} {h dx : Addr} {fs : List (Str × V)} (x : FStep C H a rows q H1 r1 q1) (h0 : H h = none) (hp : H1 h = some (.ins C' dx fs)) (hg : h ≠ a.g) (hn : h ∉ a.muts r1) (o : HO) : FStep C H a rows q (L2.upd H1 h o) r1 q1 :=
  ⟨x.gat.updI hp hg hn o, x.pre, fun b u e n t => by rw [upd_ne (ne_of_none e h0)]; exact x.fr b u e n t, x.new, fun b e n => by
    by_cases z : b = h
    · rw [z, upd_same]; simp
    · rw [upd_ne z]; exact x.nn b e n⟩
theorem upd_of {H H' : Hp} {p : Addr} {o : HO} (h : ∀ b, b ≠ p → H' b = H b) (e : H' p = some o) : H' = upd H p o := funext fun b => by
  by_cases z : b = p
  · rw [z, e, upd_same]
  · rw [h b z, upd_ne z]
/-- the box is refused, for it leaves the ground -/
def sp_filledFar (K : PySem.W.Frag) : Sp := fun vs H _ E => ∃ (g v x : V) (pb : Addr) (l t w' h : Int), vs = [g, v, .ref pb, x] ∧ BoxT H pb l t w' h ∧ 0 < w' ∧ 0 < h ∧ ¬ (-1099511627776 ≤ l ∧ l + w' ≤ 1099511627776 ∧ -1099511627776 ≤ t ∧ t + h ≤ 1099511627776) ∧ E (.ref (He.ga K "TooFar")) none H
theorem okX_filledFar (T : Env fa fn K mg) : Good P w K mg base (L2N.CX P w) 60 ("filled", none) ["grove", "field", "box", "state"] (sp_filledFar K) := by
  have G_refuse_box := ok_refuse (P := P) (w := w) (base := base) T
  have G_lies_within := ok_lies (P := P) (w := w) (base := base) T
  refine good_mkX T 28 (d := d_filled) (N := ["grove", "field", "box", "state", "empty", "inside", "outside"]) (ps := ["grove", "field", "box", "state"]) rfl rfl sc_filled (fun _ _ _ _ _ _ us hl => match us, hl with | [_, _, _, _], _ => rfl) (fun vs H Q E h => ?_) (fun f cdv A outer s H vs Q E hr h => ?_)
  · obtain ⟨g, v, x, pb, l, t, w', h, rfl, _⟩ := h; rfl
  · obtain ⟨g, v, x, pb, l, t, w', h, rfl, hb, w0, h0, hg, k⟩ := h
    have hb' : H pb = some (.tup [.int l, .int t, .int w', .int h]) := hb
    refine ⟨_, (pss_cons (ps_expr (pe_cgK K rfl G_refuse_box (hr.mono (by decide)) (T.glo 31) (pa_cons (pv 2) pa_nil)))
      (pss_cons (ps_set (i := 4) sc_filled.nd rfl (Or.inl rfl) (L2.pe_or (pe_cmpR op_eq (pe_ix (ix_tupK K rfl) (pv 2) pe_int (fun _ _ => rfl)) pe_int (nomark _)) (pe_one (pe_cmpR op_eq (pe_ix (ix_tupK K rfl) (pv 2) pe_int (fun _ _ => rfl)) pe_int (nomark _)))))
      (pss_cons (ps_if (PW.pt (pw_and (pt_not (pt_val (pv 4))) (pw_and1 (pt_not (pt_val (pe_cgK K rfl G_lies_within (hr.mono (by decide)) (T.glo 32) (pa_cons (pv 2) (pa_cons (pe_gint (T.int 33) rfl) pa_nil)))))))) (pss_one (ps_raiseT K rfl (T.exf (List.mem_of_getElem? (i := 1) rfl)) (T.glo 39) rfl (L2N.takes_of rfl rfl rfl rfl) rfl)) pss_nil)
      pss_never))), ?_⟩
    walk_at "rd"
    refine ⟨pb, l, t, w', h, rfl, hb, by omega, by omega, ?_⟩
    walk_at "rd"
    rw [decide_eq_false (show ¬ w' = 0 by omega)]
    walk_at "rd"
    rw [decide_eq_false (show ¬ h = 0 by omega)]
    walk_at "rd"
    refine ⟨pb, l, t, w', h, _, rfl, hb, ?_⟩
    rw [decide_eq_false (by omega)]
    walk_at "rd"
    exact rd_raise k
/-! ### the hand -/
def HandO (K : PySem.W.Frag) (dx : Addr) (a : GA) (f left x y : Int) : HO := .ins (He.ga K "Hand") dx [("grove", .ref a.g), ("field", .int f), ("left", .int left), ("x", .int x), ("y", .int y)]
def sp_hinit (K : PySem.W.Frag) : Sp := fun vs H Q _ => ∃ (a : GA) (rows : List (Int × Addr)) (q : List Sq) (p dx : Addr) (left top : Int), vs = [.ref p, .ref a.g, .int left, .int top] ∧ H p = some (.ins (He.ga K "Hand") dx []) ∧ GAt (CG K) H a rows q ∧ p ≠ a.g ∧ p ∉ a.muts rows ∧ q.length < 15000000 ∧
  ∀ H1 H' rows' q' (m : Nat), GStep (CG K) (upd H p (.ins (He.ga K "Hand") dx [("grove", .ref a.g)])) a rows q H1 rows' q' → q'.length ≤ q.length + 50 → q'[m]? = some (Sq.even 1 0) → (∀ b, b ≠ p → H' b = H1 b) → H' p = some (HandO K dx a m left left top) → Q .non H'
theorem ok_hinit (T : Env fa fn K mg) : Good P w K mg base CX0 6 ("Hand", some "__init__") ["self", "grove", "left", "top"] (sp_hinit K) := by
  have G_Grove_solid := ok_solid (P := P) (w := w) (base := base) T
  refine good_mk T 32 (d := d_Hand_init) (N := ["self", "grove", "left", "top"]) (ps := ["self", "grove", "left", "top"]) rfl rfl sc_Hand_init (fun _ _ _ _ _ _ us hl => match us, hl with | [_, _, _, _], _ => rfl) (fun vs H Q E h => ?_) (fun f cdv A outer σ0 H vs Q E hr h => ?_)
  · obtain ⟨a, rows, q, p, dx, left, top, rfl, _⟩ := h; rfl
  · obtain ⟨a, rows, q, p, dx, left, top, rfl, hp, G, pg, pn, hq, k⟩ := h
    have cl := T.cls 52
    refine ⟨_, (pss_cons (ps_fld (pv 0) (pv 1) rfl)
      (pss_cons (ps_fld (pv 0) (pe_mgK K rfl (pv 1) (T.cls 13) (T.meth 38) G_Grove_solid (hr.mono (by decide)) (pa_cons pe_int (pa_cons pe_int pa_nil))) rfl)
      (pss_cons (ps_fld (pv 0) (pv 2) rfl)
      (pss_cons (ps_fld (pv 0) (pv 2) rfl)
      (pss_one (ps_fld (pv 0) (pv 3) rfl)))))), ?_⟩
    walk_at "rd"
    refine ⟨p, _, dx, [], rfl, hp, cl, T.noat 108, by decide, ?_⟩
    have G1 := G.updI hp pg pn (HO.ins (He.ga K "Hand") dx (putF "grove" (.ref a.g) []))
    walk_at "rd"
    refine rd_methR G1.ob (by rfl) ?_
    walk_at "rd"
    refine ⟨a, rows, q, 1, 0, rfl, G1, by decide, by decide, by decide, by omega, fun H2 r2 q2 m S2 l2 e2 => ?_⟩
    have own := S2.own (b := p) upd_same pn
    walk_at "rd"
    refine ⟨p, _, dx, _, rfl, own.1, cl, T.noat 107, (by show 1 < 1000; decide), ?_⟩
    walk_at "rd"
    refine ⟨p, _, dx, _, rfl, upd_same, cl, T.noat 109, (by show 2 < 1000; decide), ?_⟩
    walk_at "rd"
    refine ⟨p, _, dx, _, rfl, upd_same, cl, T.noat 110, (by show 3 < 1000; decide), ?_⟩
    walk_at "rd"
    refine ⟨p, _, dx, _, rfl, upd_same, cl, T.noat 111, (by show 4 < 1000; decide), ?_⟩
    exact k H2 _ r2 q2 m S2 (by omega) e2 (fun b hb => by rw [upd_ne hb, upd_ne hb, upd_ne hb, upd_ne hb]) upd_same
theorem letter_at {c : Nat} (h : c ∈ signs9) (h1 : c ≠ 47) (h2 : c ≠ 46) : 1 ≤ (c : Int) - 64 ∧ (c : Int) - 64 ≤ 7 ∧ ∃ rest, Builtin.Str.occurrences (Str.ofString ".ABCDEFG") (tx [c]) 0 (Str.ofString ".ABCDEFG").length 1 = (c - 64) :: rest := by
  simp only [signs9, List.mem_cons, List.not_mem_nil, or_false] at h
  rcases h with rfl | rfl | rfl | rfl | rfl | rfl | rfl | rfl | rfl
  · exact absurd rfl h2
  · exact ⟨by decide, by decide, [], by decide +kernel⟩
  · exact ⟨by decide, by decide, [], by decide +kernel⟩
  · exact ⟨by decide, by decide, [], by decide +kernel⟩
  · exact ⟨by decide, by decide, [], by decide +kernel⟩
  · exact ⟨by decide, by decide, [], by decide +kernel⟩
  · exact ⟨by decide, by decide, [], by decide +kernel⟩
  · exact ⟨by decide, by decide, [], by decide +kernel⟩
  · exact absurd rfl h1
theorem tx_slash : Str.ofString "/" = tx [47] := str_tx (by decide +kernel)
theorem tx_dot : Str.ofString "." = tx [46] := str_tx (by decide +kernel)
def sp_hput (K : PySem.W.Frag) : Sp := fun vs H Q _ => ∃ (a : GA) (rows : List (Int × Addr)) (q : List Sq) (h dx : Addr) (f : Nat) (S : Sq) (left x y : Int) (r : Rn) (N : Nat), vs = [.ref h, .int (r.1 : Int), .str (tx [r.2])] ∧ GAt (CG K) H a rows q ∧ q[f]? = some S ∧ 1 ≤ S.level ∧ S.level ≤ 41 ∧ S.Least ∧
  H h = some (HandO K dx a f left x y) ∧ h ≠ a.g ∧ h ∉ a.muts rows ∧ TabsN (tabsN K) H ∧ RnW r ∧ (r.2 ≠ 47 → r.2 ≠ 46 → StripIn (x, y, (r.1 : Int), (r.2 : Int) - 64) ∧ FewP S x y (r.1 : Int) 1 N) ∧ q.length + 8820 * N + 20000 < 15000000 ∧
  (r.2 = 47 → ∀ H', (∀ b, b ≠ h → H' b = H b) → H' h = some (HandO K dx a f left left (y + r.1)) → Q .non H') ∧ (r.2 = 46 → ∀ H', (∀ b, b ≠ h → H' b = H b) → H' h = some (HandO K dx a f left (x + r.1) y) → Q .non H') ∧
  (r.2 ≠ 47 → r.2 ≠ 46 → ∀ H1 H' rows' q' (m : Nat) T, FStep (CG K) H a rows q H1 rows' q' → TabsN (tabsN K) H1 → q'.length ≤ q.length + 8820 * N + 6000 → q'[m]? = some T → 1 ≤ T.level → T.level ≤ 41 → T.Least →
    (∀ u v, T.val u v = if x ≤ u ∧ u < x + r.1 ∧ y ≤ v ∧ v < y + 1 then (r.2 : Int) - 64 else S.val u v) → (∀ b, b ≠ h → H' b = H1 b) → H' h = some (HandO K dx a m left (x + r.1) y) → Q .non H')
set_option maxHeartbeats 8000000 in
theorem ok_hput (T : Env fa fn K mg) (TB : ∀ p ∈ tfs, TabB base mg (He.codeOf K p) (He.tabOf K (He.codeOf K p))) : Good P w K mg base CX0 61 ("Hand", some "put") ["self", "amount", "sign"] (sp_hput K) := by
  have G_filled := ok_filledG (P := P) (w := w) (base := base) T TB
  refine good_mk T 33 (d := d_Hand_put) (N := ["self", "amount", "sign", "box"]) (ps := ["self", "amount", "sign"]) rfl rfl sc_Hand_put (fun _ _ _ _ _ _ us hl => match us, hl with | [_, _, _], _ => rfl) (fun vs H Q E h => ?_) (fun f cdv A outer σ0 H vs Q E hr h => ?_)
  · obtain ⟨a, rows, q, h, dx, f, S, left, x, y, r, N, rfl, _⟩ := h; rfl
  · obtain ⟨a, rows, q, h, dx, f, S, left, x, y, ⟨n, c⟩, N, rfl, G, hn, l1, l41, hL, hh, hg, hm, tabs, hw, hlet, hq, k1, k2, k3⟩ := h
    have cl := T.cls 52
    have n1 := T.noat 108
    have n2 := T.noat 107
    have n3 := T.noat 109
    have n4 := T.noat 110
    have n5 := T.noat 111
    have hh' : H h = some (.ins (He.ga K "Hand") dx [("grove", .ref a.g), ("field", .int f), ("left", .int left), ("x", .int x), ("y", .int y)]) := hh
    refine ⟨_, (pss_cons (ps_if (pt_cmpR op_eq (pv 2) pe_str (nomark _)) (pss_cons (ps_fld (pv 0) (pe_fldK K rfl (pv 0) rfl) rfl)
      (pss_cons (ps_fldaug (pv 0) (pv 1) in_add)
      (pss_one ps_retN))) pss_nil)
      (pss_cons (ps_if (pt_cmpR op_ne (pv 2) pe_str (nomark _)) (pss_cons (ps_set (i := 3) sc_Hand_put.nd rfl (Or.inl rfl) (pe_tup (pa_cons (pe_fldK K rfl (pv 0) rfl) (pa_cons (pe_fldK K rfl (pv 0) rfl) (pa_cons (pv 1) (pa_cons pe_int pa_nil))))))
      (pss_one (ps_fld (pv 0) (pe_cgK K rfl G_filled (hr.mono (by decide)) (T.glo 46) (pa_cons (pe_fldK K rfl (pv 0) rfl) (pa_cons (pe_fldK K rfl (pv 0) rfl) (pa_cons (pv 3) (pa_cons (pe_m1 PySem.F.slot_str_index PySem.F.type_str_index mt_sindex (pe_gstr (T.str 47) rfl) (pv 2)) pa_nil))))) rfl))) pss_nil)
      (pss_one (ps_fldaug (pv 0) (pv 1) in_add)))), ?_⟩
    walk_at "rd"
    rw [tx_slash, tx_eq]
    refine ite_d (fun z => ?_) (fun z => ?_)
    · have z : c = 47 := by simpa using z
      subst z
      walk_at "rd"
      refine ⟨h, _, dx, _, rfl, hh', cl, n4, (by show 5 < 1000; decide), ?_⟩
      walk_at "rd"
      refine ⟨_, rfl, h, _, dx, _, _, rfl, upd_same, cl, n5, rfl, _, rfl, _, _, rfl, rfl, dx, _, upd_same, (by show 5 < 1000; decide), ?_⟩
      walk_at "rd"
      exact k1 rfl _ (fun b hb => by rw [upd_ne hb, upd_ne hb]) upd_same
    have z47 : c ≠ 47 := by simpa using z
    walk_at "rd"
    rw [tx_dot, tx_eq]
    refine ite_nd (fun z => ?_) (fun z => ?_)
    · have z46 : c ≠ 46 := by simpa using z
      obtain ⟨c1, c7, rest, ho⟩ := letter_at hw.2 z47 z46
      obtain ⟨hin, few⟩ := hlet z47 z46
      walk_at "rd"
      refine rd_new (hn := by show 4 ≤ sizeLine; decide) fun t ht => ?_
      have s1 := same_upd (o := HO.tup [V.int x, V.int y, V.int (n : Int), V.int 1]) ht
      have B1 : BoxT (upd H t (HO.tup [V.int x, V.int y, V.int (n : Int), V.int 1])) t x y (n : Int) 1 := upd_same
      have hh1 : (upd H t (HO.tup [V.int x, V.int y, V.int (n : Int), V.int 1])) h = some (.ins (He.ga K "Hand") dx [("grove", .ref a.g), ("field", .int f), ("left", .int left), ("x", .int x), ("y", .int y)]) := s1 _ _ hh'
      have F1 : FStep (CG K) H a rows q (upd H t (HO.tup [V.int x, V.int y, V.int (n : Int), V.int 1])) rows q := FStep.ext (G.same s1) (ExtN.of s1) fun b e => none_ofW2 s1 e
      have t1 := tabs_same tabs s1
      have G1 := G.same s1
      have e1 : ((n, c) : Rn).1 = n := rfl
      generalize upd H t (HO.tup [V.int x, V.int y, V.int (n : Int), V.int 1]) = H1 at *
      walk_at "rd"
      refine rd_m1 ?_
      walk_at "rd"
      refine rd_st ?_
      walk_at "rd"
      refine ⟨_, _, _, _, rfl, rfl, ho, ?_⟩
      walk_at "rd"
      have ec : (((c - 64 : Nat) : Nat) : Int) = (c : Int) - 64 := by have : 1 ≤ (c : Int) - 64 := c1; omega
      have c1' : 1 ≤ (c : Int) - 64 := c1
      have c7' : (c : Int) - 64 ≤ 7 := c7
      rw [ec]
      have n0 : 1 ≤ n := hw.1
      obtain ⟨i1, i2, i3, i4⟩ := hin
      dsimp only at i1 i2 i3 i4
      refine ⟨a, rows, q, f, S, t, x, y, (n : Int), 1, (c : Int) - 64, N, rfl, G1, hn, l1, l41, hL, B1, ⟨by omega, by decide, .inr (.inr ⟨i1, i2, i3, i4⟩)⟩, by omega, by omega, t1, few, hq, fun H2 r2 q2 m T2 F2 t2 lq2 e2 g1 g2 g3 gv => ?_⟩
      have own := F2.own hh1 (fun z => hm z) (fun _ z => by cases z)
      walk_at "rd"
      refine ⟨h, _, dx, _, rfl, own.1, cl, n2, (by show 5 < 1000; decide), ?_⟩
      walk_at "rd"
      refine ⟨_, rfl, h, _, dx, _, _, rfl, upd_same, cl, n4, rfl, _, rfl, _, _, rfl, rfl, dx, _, upd_same, (by show 5 < 1000; decide), ?_⟩
      exact k3 z47 z46 H2 _ r2 q2 m T2 (F1.trans F2) t2 lq2 e2 g1 g2 g3 gv (fun b hb => by rw [upd_ne hb, upd_ne hb]) upd_same
    · have z : c = 46 := by simpa using z
      subst z
      walk_at "rd"
      refine ⟨_, rfl, h, _, dx, _, _, rfl, hh', cl, n4, rfl, _, rfl, _, _, rfl, rfl, dx, _, hh', (by show 5 < 1000; decide), ?_⟩
      exact k2 rfl _ (fun b hb => by rw [upd_ne hb]) upd_same
theorem rd_mk {C : Addr} {sp : Sp} {dvs : List V} {E : XK} {t : TA} {σ : L2.St} {H : Hp} {Q : VK} (h : t σ H fun vs H1 => ∀ x dx, H1 x = none → H1 dx = none → dx ≠ x → sp (.ref x :: (vs ++ dvs)) (upd (upd H1 dx (.own x)) x (.ins C dx [])) (fun v H2 => v = .non ∧ Q (.ref x) H2) E) : tMake C sp dvs E t σ H Q := h
theorem tabs_updI {T : List NTab} {H : Hp} {p dx C : Addr} {fs : List (Str × V)} (t : TabsN T H) (hp : H p = some (.ins C dx fs)) (o : HO) : TabsN T (upd H p o) := tabs_fr t fun b u e z => by
  rw [upd_ne]
  · exact e
  · rintro rfl
    rw [hp] at e
    cases e
    rcases z with ⟨_, z⟩ | ⟨_, z⟩ <;> cases z
theorem tup_updI {H : Hp} {p dx C : Addr} {fs : List (Str × V)} (hp : H p = some (.ins C dx fs)) (o : HO) : Tup H (upd H p o) := fun b xs e => by
  rw [upd_ne]
  · exact e
  · rintro rfl
    rw [hp] at e
    cases e
theorem strips_47 {left x y : Int} {n : Nat} {rs : List Rn} : strips left x y ((n, 47) :: rs) = strips left left (y + n) rs := by simp [strips]
theorem strips_46 {left x y : Int} {n : Nat} {rs : List Rn} : strips left x y ((n, 46) :: rs) = strips left (x + n) y rs := by simp [strips]
theorem strips_L {left x y : Int} {n c : Nat} {rs : List Rn} (h : c ≠ 47) (h' : c ≠ 46) : strips left x y ((n, c) :: rs) = (x, y, (n : Int), (c : Int) - 64) :: strips left (x + n) y rs := by simp [strips, h, h']
def sp_end : Sp := fun vs H Q _ => ∃ i : Int, vs = [.str (tx (numT i))] ∧ i.natAbs < 10 ^ 13 ∧ Q (.int i) H
theorem ok_end (T : Env fa fn K mg) : Good P w K mg base CX0 2 ("read_end", none) ["text"] sp_end := by
  have GX_read_whole := okX_rw (P := P) (w := w) (base := base) T
  refine good_mk T 31 (d := d_read_end) (N := ["text", "found"]) (ps := ["text"]) rfl rfl sc_read_end (fun _ _ _ _ _ _ us hl => match us, hl with | [_], _ => rfl) (fun vs H Q E h => ?_) (fun f cdv A outer s H vs Q E hr h => ?_)
  · obtain ⟨i, rfl, _⟩ := h; rfl
  · obtain ⟨i, rfl, hi, k⟩ := h
    have hl := numT_len (k := 13) (by decide) hi
    have h30 : i.natAbs < 10 ^ 30 := Nat.lt_trans hi (by decide)
    refine ⟨_, (pss_cons (ps_if (pt_cmpR op_gt (pe_callB call_len_str (by rfl) (T.free 4) (by decide +kernel) (pa_cons (pe_m1 PySem.F.slot_str_lstrip PySem.F.type_str_lstrip mt_lstripChars (pv 0) pe_str) pa_nil)) (pe_gint (T.int 40) rfl) (nomark _)) pss_never pss_nil)
      (pss_cons (ps_try1 K rfl rfl rfl ⟨rfl, by decide, .inl (T.glo 7)⟩ takes0N (fun W pn xe tk pw => (pss_one (ps_set (i := 1) sc_read_end.nd rfl (Or.inl rfl) (pe_cgX K rfl tk GX_read_whole (hr.mono (by decide)) (T.glo 45) (pa_cons (pv 0) pa_nil)))))
      (fun a oe cls d pn hz hf => pss_never))
      (pss_one (ps_ret (pv 1))))), ?_⟩
    walk_at "rd"
    refine rd_m1 ?_
    walk_at "rd"
    refine rd_st ?_
    walk_at "rd"
    refine ⟨_, _, rfl, rfl, len_ok (by omega), ?_⟩
    have hs := lstrip_num (k := 13) (by decide) hi
    refine ⟨_, rfl, by have := sizeBig; omega, ?_⟩
    walk_at "rd"
    rw [decide_eq_false (by omega)]
    walk_at "rd"
    refine rd_try1 ?_
    walk_at "rd"
    refine rd_callS ?_
    walk_at "rd"
    refine ⟨_, rfl, .inl ⟨numT i, rfl, by omega, fun _ => ?_, fun n => absurd (numT_ok h30).1 n⟩⟩
    rw [(numT_ok h30).2]
    walk_at "rd"
    exact k
def patT (left top : Int) (rs : List Rn) : List Nat := numT left ++ 44 :: (numT top ++ 58 :: textT rs)
theorem part_at {A B : List Nat} {c : Nat} {z : Str} (hz : z = tx [c]) (h : c ∉ A) : Txt.partition (tx (A ++ c :: B)) z = (tx A, z, tx B) := by
  subst hz
  have e : tx (A ++ c :: B) = tx A ++ tx [c] ++ tx B := by rw [tx_app, tx_app, List.append_assoc]; rfl
  rw [e]
  exact TL.partition_app (show TL.tl (tx [c]) = c :: [] from rfl) h
theorem tx_comma : Str.ofString "," = tx [44] := str_tx (by decide +kernel)
theorem tx_colon : Str.ofString ":" = tx [58] := str_tx (by decide +kernel)
theorem numT_free {i : Int} {c : Nat} (h : c ≠ 45) (h' : ¬ (48 ≤ c ∧ c ≤ 57)) : c ∉ numT i := fun m => (numT_signs i c m).elim h h'
theorem pat_len {left top : Int} {rs : List Rn} (hl : left.natAbs < 10 ^ 13) (ht : top.natAbs < 10 ^ 13) (hw : ∀ r ∈ rs, RnW r ∧ r.1 < 10 ^ 13) (h5 : rs.length ≤ 500) : (patT left top rs).length ≤ 8000 := by
  have h1 := numT_len (k := 13) (by decide) hl
  have h2 := numT_len (k := 13) (by decide) ht
  have h3 := text_len (rs := rs) (B := 14) fun r hr => word_len (by decide) (hw r hr).2
  unfold patT
  rw [List.length_append, List.length_cons, List.length_append, List.length_cons]
  omega
def sp_pat (K : PySem.W.Frag) : Sp := fun vs H Q _ => ∃ (a : GA) (rows : List (Int × Addr)) (q : List Sq) (left top : Int) (rs : List Rn) (N : Nat), vs = [.ref a.g, .str (tx (patT left top rs))] ∧ GAt (CG K) H a rows q ∧ TabsN (tabsN K) H ∧ left.natAbs < 10 ^ 13 ∧ top.natAbs < 10 ^ 13 ∧
  (∀ r ∈ rs, RnW r ∧ r.1 < 10 ^ 13) ∧ rs.length ≤ 500 ∧ (∀ s ∈ strips left left top rs, StripIn s) ∧ RowN (strips left left top rs) N ∧ q.length + (strips left left top rs).length * (8820 * N + 6000) + 8820 * N + 30000 < 15000000 ∧
  ∀ H' rows' q' (m : Nat) T, FStep (CG K) H a rows q H' rows' q' → TabsN (tabsN K) H' → q'.length ≤ q.length + 50 + (strips left left top rs).length * (8820 * N + 6000) → q'[m]? = some T → 1 ≤ T.level → T.level ≤ 41 → T.Least → (∀ u v, T.val u v = layS (fun _ _ => 0) (strips left left top rs) u v) → Q (.int (m : Int)) H'
set_option maxHeartbeats 16000000 in
theorem ok_pat (T : Env fa fn K mg) (TB : ∀ p ∈ tfs, TabB base mg (He.codeOf K p) (He.tabOf K (He.codeOf K p))) : Good P w K mg base CX0 62 ("read_pattern", none) ["grove", "text"] (sp_pat K) := by
  have G_read_end := ok_end (P := P) (w := w) (base := base) T
  have G_Hand_init := ok_hinit (P := P) (w := w) (base := base) T
  have G_read_runs := ok_read (P := P) (w := w) (base := base) T
  have G_Hand_put := ok_hput (P := P) (w := w) (base := base) T TB
  refine good_mk T 34 (d := d_read_pattern) (N := ["grove", "text", "ends", "colon", "body", "left", "comma", "top", "hand", "amount", "sign"]) (ps := ["grove", "text"]) rfl rfl sc_read_pattern (fun _ _ _ _ _ _ us hl => match us, hl with | [_, _], _ => rfl) (fun vs H Q E h => ?_) (fun f cdv A outer σ0 H vs Q E hr h => ?_)
  · obtain ⟨a, rows, q, left, top, rs, N, rfl, _⟩ := h; rfl
  · obtain ⟨a, rows, q, left, top, rs, N, rfl, G, tabs, hl, ht, hw, h5, hin, hN, hq, k⟩ := h
    have pl := pat_len hl ht hw h5
    have cl := T.cls 52
    have n2 := T.noat 107
    refine ⟨_, (pss_cons (ps_if (pt_not (pt_val (pe_callB (call_isiK K rfl) (by rfl) (T.free 1) (by decide +kernel) (pa_cons (pv 1) (pa_cons (pe_bltn (v := V.ty "str") rfl (T.free 3) (by decide +kernel) rfl) pa_nil))))) pss_never pss_nil)
      (pss_cons (ps_asg (pe_partition (pv 1) pe_str) (pg_tup rfl (pgs_cons (pg_name (i := 2) sc_read_pattern.nd rfl (Or.inl rfl)) (pgs_cons (pg_name (i := 3) sc_read_pattern.nd rfl (Or.inl rfl)) (pgs_cons (pg_name (i := 4) sc_read_pattern.nd rfl (Or.inl rfl)) pgs_nil)))))
      (pss_cons (ps_asg (pe_partition (pv 2) pe_str) (pg_tup rfl (pgs_cons (pg_name (i := 5) sc_read_pattern.nd rfl (Or.inl rfl)) (pgs_cons (pg_name (i := 6) sc_read_pattern.nd rfl (Or.inl rfl)) (pgs_cons (pg_name (i := 7) sc_read_pattern.nd rfl (Or.inl rfl)) pgs_nil)))))
      (pss_cons (ps_if (PW.pt (pw_or (pt_cmpR op_eq (pv 3) pe_str (nomark _)) (pw_or1 (pt_cmpR op_eq (pv 6) pe_str (nomark _))))) pss_never pss_nil)
      (pss_cons (ps_set (i := 8) sc_read_pattern.nd rfl (Or.inl rfl) (pe_mkgK K rfl (T.mkr 48) G_Hand_init (hr.mono (by decide)) (T.glo 49) (pa_cons (pv 0) (pa_cons (pe_cgK K rfl G_read_end (hr.mono (by decide)) (T.glo 50) (pa_cons (pv 5) pa_nil)) (pa_cons (pe_cgK K rfl G_read_end (hr.mono (by decide)) (T.glo 50) (pa_cons (pv 7) pa_nil)) pa_nil)))))
      (pss_cons (ps_for PassesOwn.never rfl (pi_listK K rfl (pe_cgK K rfl G_read_runs (hr.mono (by decide)) (T.glo 51) (pa_cons (pv 4) pa_nil))) (pg_tup rfl (pgs_cons (pg_name (i := 9) sc_read_pattern.nd rfl (Or.inl rfl)) (pgs_cons (pg_name (i := 10) sc_read_pattern.nd rfl (Or.inl rfl)) pgs_nil))) (pss_one (ps_expr (pe_mgK K rfl (pv 8) (T.cls 52) (T.meth 53) G_Hand_put (hr.mono (by decide)) (pa_cons (pv 9) (pa_cons (pv 10) pa_nil))))))
      (pss_one (ps_ret (pe_fldK K rfl (pv 8) rfl))))))))), ?_⟩
    walk_at "rd"
    refine isi_ty (.base (.str _)) (by decide +kernel : kitB "str" "str" = some true) ?_
    walk_at "rd"
    refine rd_m1 ?_
    walk_at "rd"
    refine rd_st ?_
    walk_at "rd"
    refine ⟨_, _, rfl, rfl, rfl, len_ok (by omega), fun p hp => ?_⟩
    have eP : Txt.partition (tx (patT left top rs)) (Str.ofString ":") = (tx (numT left ++ 44 :: numT top), Str.ofString ":", tx (textT rs)) := by
      have e : patT left top rs = (numT left ++ 44 :: numT top) ++ 58 :: textT rs := by unfold patT; simp
      rw [e]
      refine part_at tx_colon fun m => ?_
      rcases List.mem_append.mp m with m | m
      · exact numT_free (by decide) (by decide) m
      · rcases List.mem_cons.mp m with m | m
        · cases m
        · exact numT_free (by decide) (by decide) m
    rw [eP]
    have s1 := same_upd (o := HO.tup [V.str (tx (numT left ++ 44 :: numT top)), V.str (Str.ofString ":"), V.str (tx (textT rs))]) hp
    have T1 : (upd H p (HO.tup [V.str (tx (numT left ++ 44 :: numT top)), V.str (Str.ofString ":"), V.str (tx (textT rs))])) p = some (.tup [V.str (tx (numT left ++ 44 :: numT top)), V.str (Str.ofString ":"), V.str (tx (textT rs))]) := upd_same
    generalize upd H p (HO.tup [V.str (tx (numT left ++ 44 :: numT top)), V.str (Str.ofString ":"), V.str (tx (textT rs))]) = H1 at *
    walk_at "rd"
    refine rd_m1 ?_
    walk_at "rd"
    refine rd_st ?_
    walk_at "rd"
    refine ⟨_, _, rfl, rfl, rfl, len_ok (by have e : patT left top rs = (numT left ++ 44 :: numT top) ++ 58 :: textT rs := by { unfold patT; simp }
                                            rw [e, List.length_append] at pl; omega), fun p2 hp2 => ?_⟩
    have eP2 : Txt.partition (tx (numT left ++ 44 :: numT top)) (Str.ofString ",") = (tx (numT left), Str.ofString ",", tx (numT top)) := part_at tx_comma (numT_free (by decide) (by decide))
    rw [eP2]
    have s2 := same_upd (o := HO.tup [V.str (tx (numT left)), V.str (Str.ofString ","), V.str (tx (numT top))]) hp2
    have T2 : (upd H1 p2 (HO.tup [V.str (tx (numT left)), V.str (Str.ofString ","), V.str (tx (numT top))])) p2 = some (.tup [V.str (tx (numT left)), V.str (Str.ofString ","), V.str (tx (numT top))]) := upd_same
    generalize upd H1 p2 (HO.tup [V.str (tx (numT left)), V.str (Str.ofString ","), V.str (tx (numT top))]) = H2 at *
    have s12 := s1.trans s2
    have G2 := G.same s12
    have tabs2 := tabs_same tabs s12
    walk_at "rd"
    rw [show decide (Str.ofString ":" = Str.ofString "") = false by decide +kernel]
    walk_at "rd"
    rw [show decide (Str.ofString "," = Str.ofString "") = false by decide +kernel]
    walk_at "rd"
    refine rd_mk ?_
    walk_at "rd"
    refine ⟨left, rfl, hl, ?_⟩
    walk_at "rd"
    refine ⟨top, rfl, ht, ?_⟩
    walk_at "rd"
    intro hnd dx h0 hd0 hne
    have hg : hnd ≠ a.g := (ne_of_none G2.ob h0).symm
    have hm0 : hnd ∉ a.muts rows := G2.new_out h0
    have s3 : Same H2 (upd (upd H2 dx (.own hnd)) hnd (.ins (He.ga K "Hand") dx [])) := (same_upd hd0).trans (same_upd (by rw [upd_ne hne.symm]; exact h0))
    have L3 : (upd (upd H2 dx (.own hnd)) hnd (.ins (He.ga K "Hand") dx [])) hnd = some (.ins (He.ga K "Hand") dx []) := upd_same
    have F3 : FStep (CG K) H2 a rows q (upd (upd H2 dx (.own hnd)) hnd (.ins (He.ga K "Hand") dx [])) rows q := FStep.ext (G2.same s3) (ExtN.of s3) fun b e => none_ofW2 s3 e
    have tabs3 := tabs_same tabs2 s3
    have n1 := T.noat 108
    generalize upd (upd H2 dx (.own hnd)) hnd (.ins (He.ga K "Hand") dx []) = H3 at *
    refine ⟨a, rows, q, hnd, dx, left, top, rfl, L3, F3.gat, hg, hm0, by omega, fun H4 H5 r5 q5 m5 S5 l5 e5 k5 e5' => ?_⟩
    obtain rfl := upd_of k5 e5'
    have F4 : FStep (CG K) H2 a rows q H4 r5 q5 := (F3.put h0 L3 hg hm0 _).trans (FStep.of S5)
    have tabs4 := tabs_step (tabs_updI tabs3 L3 _) (F3.gat.updI L3 hg hm0 _) S5
    obtain ⟨L4, hm5⟩ := S5.own (b := hnd) upd_same hm0
    have F5 := F4.put h0 L4 hg hm5 (HandO K dx a (m5 : Int) left left top)
    have tabs5 := tabs_updI tabs4 L4 (HandO K dx a (m5 : Int) left left top)
    have L5 : (upd H4 hnd (HandO K dx a (m5 : Int) left left top)) hnd = some (HandO K dx a (m5 : Int) left left top) := upd_same
    generalize upd H4 hnd (HandO K dx a (m5 : Int) left left top) = H5 at *
    clear F3 F4 tabs4 L4 L3 tabs3 s3 S5 k5 e5' tabs2 T1 T2 s1 s2 eP eP2
    refine ⟨rfl, ?_⟩
    walk_at "rd"
    refine ⟨rs, rfl, hw, by omega, fun p6 ts H6 hp6 s6 L6 R6 => ?_⟩
    have np6 := F5.gat.new_out hp6
    have F6 : FStep (CG K) H2 a rows q H6 r5 q5 := F5.trans (FStep.ext (F5.gat.same s6) (ExtN.of s6) fun b e => none_ofW2 s6 e)
    have tabs6 := tabs_same tabs5 s6
    have Lh6 := s6 _ _ L5
    have hp6' : p6 ≠ hnd := fun z => by rw [z, L5] at hp6; cases hp6
    obtain ⟨M, hM⟩ : ∃ M, M = 8820 * N + 6000 := ⟨_, rfl⟩
    rw [← hM] at k hq
    obtain ⟨SS, hSS⟩ : ∃ SS, SS = strips left left top rs := ⟨_, rfl⟩
    rw [← hSS] at k hq hin hN
    refine ⟨p6, rfl, ⟨_, SqL.of L6⟩, ?_⟩
    refine for_it (walk_list (xs := ts.map V.ref)) (fun i σ H' => ∃ (r2 : List (Int × Addr)) (q2 : List Sq) (f2 : Nat) (S2 : Sq) (x y : Int) (d : List Strip) (x9 x10 : Option V), σ = [some (.ref a.g), some (.str (tx (patT left top rs))), some (.str (tx (numT left ++ 44 :: numT top))), some (.str (Str.ofString ":")), some (.str (tx (textT rs))), some (.str (tx (numT left))), some (.str (Str.ofString ",")), some (.str (tx (numT top))), some (.ref hnd), x9, x10] ∧
      FStep (CG K) H2 a rows q H' r2 q2 ∧ TabsN (tabsN K) H' ∧ H' hnd = some (HandO K dx a (f2 : Int) left x y) ∧ hnd ∉ a.muts r2 ∧ H' p6 = some (.lst (ts.map V.ref)) ∧ p6 ∉ a.muts r2 ∧ RL H' ts rs ∧ d ++ strips left x y (rs.drop i) = SS ∧
      q2[f2]? = some S2 ∧ 1 ≤ S2.level ∧ S2.level ≤ 41 ∧ S2.Least ∧ (∀ u v, S2.val u v = layS (fun _ _ => 0) d u v) ∧ q2.length ≤ q.length + 50 + d.length * M) ?_ ?_ ?_ ?_
    · exact ⟨r5, q5, m5, _, left, top, [], none, none, rfl, F6, tabs6, Lh6, hm5, L6, np6, R6, by rw [hSS]; rfl, e5, by decide, by decide, Or.inl (by decide), fun u v => (Sq.val_even0 _ _ _), by simp only [List.length_nil]; omega⟩
    · rintro i σ H' _ ⟨r2, q2, f2, S2, x, y, d, x9, x10, rfl, F, tb, hh, hm, hp, np, R, _⟩
      exact SqL.of hp
    · rintro i v σ Ha Hb hi ⟨r2, q2, f2, S2, x, y, d, x9, x10, rfl, F, tb, hh, hm, hp, np, R, hd, e2, g1, g2, g3, gv, lq⟩ ⟨rfl, hv⟩
      have hi1 : i < ts.length := by rw [List.length_map] at hi; exact hi
      have hi2 : i < rs.length := by rw [← R.1]; exact hi1
      rw [List.getElem?_map, at_get hi1] at hv
      cases hv
      have hr := at_get hi2
      have ht' := R.2 i _ _ (at_get hi1) hr
      have hwr := hw _ (List.mem_of_getElem? hr)
      have hdr : rs.drop i = rs[i] :: rs.drop (i + 1) := List.drop_eq_getElem_cons hi2
      rw [hdr] at hd
      generalize rs[i] = r at *
      obtain ⟨n, c⟩ := r
      have ht2 : Hb ts[i] = some (.tup [.int (n : Int), .str (tx [c])]) := ht'
      have hh2 : Hb hnd = some (.ins (He.ga K "Hand") dx [("grove", .ref a.g), ("field", .int f2), ("left", .int left), ("x", .int x), ("y", .int y)]) := hh
      have dl : d.length ≤ SS.length := by rw [← hd, List.length_append]; omega
      have dm := Nat.mul_le_mul_right M dl
      walk_at "rd"
      refine rd_methR hh2 (by rfl) ?_
      walk_at "rd"
      refine ⟨a, r2, q2, hnd, dx, f2, S2, left, x, y, (n, c), N, rfl, F.gat, e2, g1, g2, g3, hh, hg, hm, tb, hwr.1, fun z1 z2 => ?_, by omega, fun z H' ek eh => ?_, fun z H' ek eh => ?_, fun z1 z2 H1 H' r3 q3 m3 T3 F3 tb3 lq3 e3 b1 b2 b3 bv ek eh => ?_⟩
      · have z1' : c ≠ 47 := z1
        have z2' : c ≠ 46 := z2
        rw [strips_L z1' z2'] at hd
        exact ⟨hin _ (by rw [← hd]; exact List.mem_append_right _ List.mem_cons_self), few_strip (s := (x, y, (n : Int), (c : Int) - 64)) (by rw [hd]; exact hN) gv⟩
      · have z' : c = 47 := z
        subst z'
        obtain rfl := upd_of ek eh
        rw [strips_47] at hd
        exact ⟨r2, q2, f2, S2, left, y + n, d, _, _, rfl, F.put h0 hh2 hg hm _, tabs_updI tb hh2 _, eh, hm, by rw [upd_ne hp6']; exact hp, np, R.keep (tup_updI hh2 _), hd, e2, g1, g2, g3, gv, lq⟩
      · have z' : c = 46 := z
        subst z'
        obtain rfl := upd_of ek eh
        rw [strips_46] at hd
        exact ⟨r2, q2, f2, S2, x + n, y, d, _, _, rfl, F.put h0 hh2 hg hm _, tabs_updI tb hh2 _, eh, hm, by rw [upd_ne hp6']; exact hp, np, R.keep (tup_updI hh2 _), hd, e2, g1, g2, g3, gv, lq⟩
      · have z1' : c ≠ 47 := z1
        have z2' : c ≠ 46 := z2
        obtain rfl := upd_of ek eh
        rw [strips_L z1' z2'] at hd
        obtain ⟨o1, o2⟩ := F3.own hh2 hm (fun _ z => by cases z)
        obtain ⟨o3, o4⟩ := F3.own hp np (fun _ z => by cases z)
        refine ⟨r3, q3, m3, T3, x + n, y, d ++ [(x, y, (n : Int), (c : Int) - 64)], _, _, rfl, (F.trans F3).put h0 o1 hg o2 _, tabs_updI tb3 o1 _, eh, o2, by rw [upd_ne hp6']; exact o3, o4, (R.keep (F3.tup F.gat)).keep (tup_updI o1 _), by rw [List.append_assoc]; exact hd, e3, b1, b2, b3, fun u v => ?_, ?_⟩
        · rw [layS_snoc, bv u v, gv u v]
        · rw [List.length_append, List.length_singleton, Nat.add_mul, Nat.one_mul]
          omega
    · rintro σ H' ⟨r2, q2, f2, S2, x, y, d, x9, x10, rfl, F, tb, hh, hm, hp, np, R, hd, e2, g1, g2, g3, gv, lq⟩
      have hh2 : H' hnd = some (.ins (He.ga K "Hand") dx [("grove", .ref a.g), ("field", .int f2), ("left", .int left), ("x", .int x), ("y", .int y)]) := hh
      rw [List.length_map, R.1, List.drop_length] at hd
      have hd' : d = SS := by rw [← hd]; exact (List.append_nil _).symm
      subst hd'
      walk_at "rd"
      exact k H' r2 q2 f2 S2 ((FStep.ext G2 (ExtN.of s12) fun b e => none_ofW2 s12 e).trans F) tb lq e2 g1 g2 g3 gv
end
end JF

/-! ### strips: their cells -/
namespace JF
open PySem PySem.Spec PyProof.Rows L2
def SLt (s t : Strip) : Prop := s.2.1 < t.2.1 ∨ (s.2.1 = t.2.1 ∧ s.1 + s.2.2.1 ≤ t.1)
theorem strips_ge {left : Int} : ∀ {rs : List Rn} {x y : Int}, (∀ r ∈ rs, RnW r) → ∀ t ∈ strips left x y rs, (t.2.1 = y ∧ x ≤ t.1) ∨ y < t.2.1
  | [], _, _, _, t, h => by cases h
  | (n, c) :: rs, x, y, hw, t, h => by
    have hr := (hw _ List.mem_cons_self).1
    have hr' : 1 ≤ n := hr
    have hw' : ∀ r ∈ rs, RnW r := fun r m => hw r (List.mem_cons_of_mem _ m)
    unfold strips at h
    dsimp only at h
    split at h
    · have := strips_ge hw' t h
      omega
    · split at h
      · have := strips_ge hw' t h
        omega
      · rcases List.mem_cons.mp h with h | h
        · subst h; exact .inl ⟨rfl, Int.le_refl _⟩
        · have := strips_ge hw' t h
          omega
theorem strips_pw {left : Int} : ∀ {rs : List Rn} {x y : Int}, (∀ r ∈ rs, RnW r) → (strips left x y rs).Pairwise SLt
  | [], _, _, _ => .nil
  | (n, c) :: rs, x, y, hw => by
    have hw' : ∀ r ∈ rs, RnW r := fun r m => hw r (List.mem_cons_of_mem _ m)
    unfold strips
    dsimp only
    split
    · exact strips_pw hw'
    · split
      · exact strips_pw hw'
      · refine List.pairwise_cons.mpr ⟨fun t ht => ?_, strips_pw hw'⟩
        have := strips_ge hw' t ht
        unfold SLt
        dsimp only
        omega
theorem strips_st {left : Int} : ∀ {rs : List Rn} {x y : Int}, (∀ r ∈ rs, RnW r) → ∀ t ∈ strips left x y rs, 1 ≤ t.2.2.1 ∧ 1 ≤ t.2.2.2 ∧ t.2.2.2 ≤ 7 ∧ ∃ r ∈ rs, (r.1 : Int) = t.2.2.1 ∧ r.2 ≠ 46 ∧ r.2 ≠ 47
  | [], _, _, _, t, h => by cases h
  | (n, c) :: rs, x, y, hw, t, h => by
    have hr := hw _ List.mem_cons_self
    have hr' : 1 ≤ n := hr.1
    have hc : c ∈ signs9 := hr.2
    have hw' : ∀ r ∈ rs, RnW r := fun r m => hw r (List.mem_cons_of_mem _ m)
    have up : ∀ {x y : Int}, t ∈ strips left x y rs → 1 ≤ t.2.2.1 ∧ 1 ≤ t.2.2.2 ∧ t.2.2.2 ≤ 7 ∧ ∃ r ∈ (n, c) :: rs, (r.1 : Int) = t.2.2.1 ∧ r.2 ≠ 46 ∧ r.2 ≠ 47 := fun h => by
      obtain ⟨a, b, d, r, m, e⟩ := strips_st hw' t h
      exact ⟨a, b, d, r, List.mem_cons_of_mem _ m, e⟩
    unfold strips at h
    dsimp only at h
    split at h
    · exact up h
    · split at h
      · exact up h
      · rename_i z1 z2
        rcases List.mem_cons.mp h with h | h
        · subst h
          obtain ⟨c1, c7, _⟩ := letter_at hc z1 z2
          exact ⟨by dsimp only; omega, c1, c7, (n, c), List.mem_cons_self, rfl, z2, z1⟩
        · exact up h
theorem strips_len {left : Int} : ∀ {rs : List Rn} {x y : Int}, (strips left x y rs).length ≤ rs.length
  | [], _, _ => Nat.le_refl _
  | (n, c) :: rs, x, y => by
    unfold strips
    dsimp only
    rw [List.length_cons]
    split
    · exact Nat.le_succ_of_le strips_len
    · split
      · exact Nat.le_succ_of_le strips_len
      · rw [List.length_cons]; exact Nat.succ_le_succ strips_len
def InS (s : Strip) (u v : Int) : Prop := s.1 ≤ u ∧ u < s.1 + s.2.2.1 ∧ s.2.1 ≤ v ∧ v < s.2.1 + 1
theorem layS_off : ∀ (l : List Strip) (f : Int → Int → Int) (u v : Int), (∀ s ∈ l, ¬ InS s u v) → layS f l u v = f u v
  | [], _, _, _, _ => rfl
  | s :: l, f, u, v, h => by
    show layS _ l u v = _
    rw [layS_off l _ u v fun t m => h t (List.mem_cons_of_mem _ m)]
    exact if_neg (h s List.mem_cons_self)
theorem layS_in : ∀ (l : List Strip) (f : Int → Int → Int) (u v : Int), l.Pairwise SLt → ∀ s ∈ l, InS s u v → layS f l u v = s.2.2.2
  | [], _, _, _, _, _, h, _ => by cases h
  | t :: l, f, u, v, pw, s, h, hin => by
    obtain ⟨p1, p2⟩ := List.pairwise_cons.mp pw
    show layS _ l u v = _
    rcases List.mem_cons.mp h with h | h
    · subst h
      rw [layS_off l _ u v fun t m z => by
        have := p1 t m
        unfold SLt at this
        unfold InS at hin z
        omega]
      exact if_pos hin
    · exact layS_in l _ u v p2 s h hin
def cellsS (l : List Strip) : List (List Int) := l.flatMap fun s => (List.range s.2.2.1.toNat).map fun k : Nat => [s.2.1, s.1 + (k : Int), s.2.2.2]
theorem cellsS_nil : cellsS [] = [] := rfl
theorem cellsS_app (l m : List Strip) : cellsS (l ++ m) = cellsS l ++ cellsS m := by unfold cellsS; rw [List.flatMap_append]
theorem cellsS_cons (s : Strip) (l : List Strip) : cellsS (s :: l) = ((List.range s.2.2.1.toNat).map fun k : Nat => [s.2.1, s.1 + (k : Int), s.2.2.2]) ++ cellsS l := by unfold cellsS; rw [List.flatMap_cons]
theorem mem_cellsS {l : List Strip} {t : List Int} : t ∈ cellsS l ↔ ∃ s ∈ l, ∃ u v : Int, InS s u v ∧ t = [v, u, s.2.2.2] := by
  unfold cellsS
  rw [List.mem_flatMap]
  constructor
  · rintro ⟨s, hs, h⟩
    obtain ⟨k, hk, rfl⟩ := List.mem_map.mp h
    rw [List.mem_range] at hk
    exact ⟨s, hs, s.1 + (k : Int), s.2.1, by unfold InS; omega, rfl⟩
  · rintro ⟨s, hs, u, v, hin, rfl⟩
    unfold InS at hin
    refine ⟨s, hs, List.mem_map.mpr ⟨(u - s.1).toNat, List.mem_range.mpr (by omega), ?_⟩⟩
    have e1 : s.1 + (((u - s.1).toNat : Nat) : Int) = u := by omega
    have e2 : s.2.1 = v := by omega
    rw [e1, e2]
theorem cellsS_lt {l : List Strip} (pw : l.Pairwise SLt) : (cellsS l).Pairwise fun a b => lexL a b = true := by
  unfold cellsS
  rw [List.pairwise_flatMap]
  refine ⟨fun s _ => List.pairwise_map.mpr (List.pairwise_lt_range.imp fun {i j} lt => ?_), pw.imp fun {s t} h a ha b hb => ?_⟩
  · rw [lexL_cons, if_pos rfl, lexL_cons, if_neg (by omega)]
    exact decide_eq_true (by omega)
  · obtain ⟨i, hi, rfl⟩ := List.mem_map.mp ha
    obtain ⟨j, hj, rfl⟩ := List.mem_map.mp hb
    rw [List.mem_range] at hi hj
    unfold SLt at h
    rcases h with h | ⟨h1, h2⟩
    · rw [lexL_cons, if_neg (by omega)]
      exact decide_eq_true h
    · rw [lexL_cons, if_pos h1, lexL_cons, if_neg (by omega)]
      exact decide_eq_true (by omega)
theorem cellsS_srt {l : List Strip} (pw : l.Pairwise SLt) : SrtL (cellsS l) := (cellsS_lt pw).imp fun h => lexL_asym _ _ h
theorem lexL_irr : ∀ x : List Int, lexL x x = false
  | [] => rfl
  | x :: r => by rw [lexL_cons, if_pos rfl]; exact lexL_irr r
theorem cellsS_nodup {l : List Strip} (pw : l.Pairwise SLt) : (cellsS l).Nodup := (cellsS_lt pw).imp fun {a b} h e => by
  subst e
  rw [lexL_irr] at h
  cases h
theorem cellsS_perm {l : List Strip} (pw : l.Pairwise SLt) (h0 : ∀ s ∈ l, s.2.2.2 ≠ 0) {S : Sq} (w : S.wf) (l1 : 1 ≤ S.level) (e : ∀ x y, S.val x y = layS (fun _ _ => 0) l x y) : (cellsS l).Perm S.cells :=
  perm_of_mem (cellsS_nodup pw) (cells_nodup w) fun t => by
    rw [mem_cellsS, mem_cells w l1]
    simp only [e]
    constructor
    · rintro ⟨s, hs, u, v, hin, rfl⟩
      have q := layS_in l (fun _ _ => 0) u v pw s hs hin
      exact ⟨u, v, by rw [q]; exact h0 s hs, by rw [q]⟩
    · rintro ⟨x, y, ne, rfl⟩
      by_cases c : ∃ s ∈ l, InS s x y
      · obtain ⟨s, hs, hin⟩ := c
        exact ⟨s, hs, x, y, hin, by rw [layS_in l _ x y pw s hs hin]⟩
      · exact absurd (layS_off l (fun _ _ => 0) x y fun s hs z => c ⟨s, hs, z⟩) ne
end JF

/-! ### runs read or refused -/
namespace JF
open PySem PySem.Spec PyProof.Rows L2
/-- the amount that figures tell -/
def amtD (acc : List Nat) : Option Nat := if acc = [] then some 1 else if 13 < acc.length ∨ acc.head? = some 48 ∨ acc = [49] then none else some (dig acc)
/-- the runs that a text tells, behind some figures -/
def runsD : List Nat → List Nat → Option (List Rn)
  | acc, [] => if acc = [] then some [] else none
  | acc, c :: L => if 48 ≤ c ∧ c ≤ 57 then runsD (acc ++ [c]) L else if c ∈ signs9 then (match amtD acc with
    | none => none
    | some n => (runsD [] L).map ((n, c) :: ·)) else none
theorem runsD_nil (acc : List Nat) : runsD acc [] = if acc = [] then some [] else none := by rw [runsD]
theorem runsD_cons (acc : List Nat) (c : Nat) (L : List Nat) : runsD acc (c :: L) = if 48 ≤ c ∧ c ≤ 57 then runsD (acc ++ [c]) L else if c ∈ signs9 then (match amtD acc with
    | none => none
    | some n => (runsD [] L).map ((n, c) :: ·)) else none := by rw [runsD]
theorem amtD_lt {acc : List Nat} {n : Nat} (hf : ∀ c ∈ acc, 48 ≤ c ∧ c ≤ 57) (h : amtD acc = some n) : 1 ≤ n ∧ n < 10 ^ 13 := by
  unfold amtD at h
  split at h
  · cases h
    decide
  · next z =>
    split at h
    · cases h
    · next z2 =>
      cases h
      have l13 : acc.length ≤ 13 := by
        apply Decidable.byContradiction
        intro q
        exact z2 (.inl (by omega))
      have lt := dig_lt acc hf
      refine ⟨?_, Nat.lt_of_lt_of_le lt (Nat.pow_le_pow_right (by decide) l13)⟩
      cases acc with
      | nil => exact absurd rfl z
      | cons c l =>
        have hc := hf c List.mem_cons_self
        have c48 : c ≠ 48 := fun q => z2 (.inr (.inl (by rw [q]; rfl)))
        have key : ∀ (l : List Nat) (a : Nat), 1 ≤ a → 1 ≤ l.foldl (fun acc c => acc * 10 + (c - 48)) a := fun l => by
          induction l with
          | nil => exact fun a h => h
          | cons d l ih => exact fun a h => ih (a * 10 + (d - 48)) (by omega)
        unfold dig NumText.digitsVal
        rw [List.foldl_cons]
        refine key l (0 * 10 + (c - 48)) ?_
        omega
theorem runsD_ok : ∀ {L acc : List Nat} {rs : List Rn}, (∀ c ∈ acc, 48 ≤ c ∧ c ≤ 57) → runsD acc L = some rs → (∀ r ∈ rs, RnW r ∧ r.1 < 10 ^ 13) ∧ rs.length ≤ L.length
  | [], acc, rs, _, h => by
    unfold runsD at h
    split at h
    · cases h
      exact ⟨(fun r m => by cases m), Nat.le_refl _⟩
    · cases h
  | c :: L, acc, rs, hf, h => by
    unfold runsD at h
    split at h
    · next z =>
      obtain ⟨a, b⟩ := runsD_ok (fun d m => by
        rcases List.mem_append.mp m with m | m
        · exact hf d m
        · rw [List.mem_singleton.mp m]; exact z) h
      exact ⟨a, Nat.le_succ_of_le b⟩
    · split at h
      · next z2 =>
        cases ha : amtD acc with
        | none => rw [ha] at h; cases h
        | some n =>
          rw [ha] at h
          cases hr : runsD [] L with
          | none => rw [hr] at h; cases h
          | some r0 =>
            rw [hr] at h
            cases h
            obtain ⟨a, b⟩ := runsD_ok (fun d m => by cases m) hr
            obtain ⟨n1, n2⟩ := amtD_lt hf ha
            refine ⟨fun r m => ?_, Nat.succ_le_succ b⟩
            rcases List.mem_cons.mp m with m | m
            · rw [m]; exact ⟨⟨n1, z2⟩, n2⟩
            · exact a r m
      · cases h
section
variable {P : Program} {w : World} {K : PySem.W.Frag} {mg : Str → Option Value} {base : Heap}
def sp_amountE (K : PySem.W.Frag) : Sp := fun vs H Q E => ∃ acc : List Nat, vs = [.str (tx acc)] ∧ (∀ c ∈ acc, 48 ≤ c ∧ c ≤ 57) ∧ acc.length ≤ 1000 ∧ (∀ n : Nat, amtD acc = some n → Q (.int (n : Int)) H) ∧ (amtD acc = none → E (.ref (He.ga K "NoPattern")) none H)
theorem okX_amount (T : Env fa fn K mg) : Good P w K mg base (L2N.CX P w) 1 ("amount_of", none) ["figures"] (sp_amountE K) := by
  refine good_mkX T 29 (d := d_amount_of) (N := ["figures"]) (ps := ["figures"]) rfl rfl sc_amount_of (fun _ _ _ _ _ _ us hl => match us, hl with | [_], _ => rfl) (fun vs H Q E h => ?_) (fun f cdv A outer s H vs Q E hr h => ?_)
  · obtain ⟨n, rfl, _⟩ := h; rfl
  · obtain ⟨acc, rfl, hf, hl, hy, hn⟩ := h
    have hsz := sizeBig
    refine ⟨_, (pss_cons (ps_if (pt_cmpR op_eq (pv 0) pe_str (nomark _)) (pss_one (ps_ret pe_int)) pss_nil)
      (pss_cons (ps_if (PW.pt (pw_or (pt_cmpR op_gt (pe_callB call_len_str (by rfl) (T.free 4) (by decide +kernel) (pa_cons (pv 0) pa_nil)) (pe_gint (T.int 40) rfl) (nomark _)) (pw_or (pt_cmpR op_eq (pe_ix ix_str (pv 0) pe_int (fun _ _ => rfl)) pe_str (nomark _)) (pw_or1 (pt_cmpR op_eq (pv 0) pe_str (nomark _)))))) (pss_one (ps_raiseT K rfl (T.exf (List.mem_of_getElem? (i := 2) rfl)) (T.glo 41) rfl (L2N.takes_of rfl rfl rfl rfl) rfl)) pss_nil)
      (pss_one (ps_ret (pe_callTy call_int_str (by rfl) (T.free 2) (by decide +kernel) (pa_cons (pv 0) pa_nil)))))), ?_⟩
    unfold amtD at hy hn
    walk_at "rd"
    rw [tx_nil, tx_eq]
    refine ite_d (fun z => ?_) (fun z => ?_)
    · walk_at "rd"
      rw [if_pos z] at hy
      exact hy 1 rfl
    · rw [if_neg z] at hy hn
      obtain ⟨c, l, ec⟩ : ∃ c l, acc = c :: l := by
        cases acc with
        | nil => exact absurd rfl z
        | cons c l => exact ⟨c, l, rfl⟩
      walk_at "rd"
      refine ⟨_, rfl, len_ok (by omega), ?_⟩
      walk_at "rd"
      rw [tx_len]
      refine ite_d (fun z2 => ?_) (fun z2 => ?_)
      · walk_at "rd"
        exact rd_raise (hn (if_pos (.inl (by omega))))
      walk_at "rd"
      refine ⟨_, _, c, rfl, rfl, len_ok (by omega), by show atI acc 0 = some c; rw [ec]; exact atI_nat (j := 0) rfl, ?_⟩
      walk_at "rd"
      rw [tx_nought]
      have e1 : decide ((⟨#[c]⟩ : Str) = tx [48]) = decide (c = 48) := by
        show decide (tx [c] = tx [48]) = _
        rw [tx_eq]
        exact decide_eq_decide.mpr (by simp)
      rw [e1]
      refine ite_d (fun z3 => ?_) (fun z3 => ?_)
      · walk_at "rd"
        exact rd_raise (hn (if_pos (.inr (.inl (by rw [ec, z3]; rfl)))))
      walk_at "rd"
      rw [tx_one, tx_eq]
      refine ite_d (fun z4 => ?_) (fun z4 => ?_)
      · walk_at "rd"
        exact rd_raise (hn (if_pos (.inr (.inr z4))))
      walk_at "rd"
      have hk : ¬ (13 < acc.length ∨ acc.head? = some 48 ∨ acc = [49]) := by
        rintro (h | h | h)
        · omega
        · rw [ec] at h
          exact z3 (Option.some.inj h)
        · exact z4 h
      exact ⟨_, ((dig acc : Nat) : Int), rfl, intText_digits (x := tx acc) hf z (by rw [tx_len]; omega), by rw [tx_len]; omega, hy _ (if_neg hk)⟩
/-- what is no text -/
def NoTxE (H : Hp) (x : V) : Prop := (∃ i, x = .int i) ∨ (∃ b, x = .bl b) ∨ x = .non ∨ (∃ p xs, x = .ref p ∧ H p = some (.lst xs)) ∨ (∃ p xs, x = .ref p ∧ H p = some (.tup xs)) ∨ ∃ p kvs, x = .ref p ∧ H p = some (.dK kvs)
theorem isi_noTx {H : Hp} {Q : VK} {x : V} (h : NoTxE H x) (q : Q (.bl false) H) : rIsi K [x, .ty "str"] H Q := by
  rcases h with ⟨i, rfl⟩ | ⟨b, rfl⟩ | rfl | ⟨p, xs, rfl, hp⟩ | ⟨p, xs, rfl, hp⟩ | ⟨p, xs, rfl, hp⟩
  · exact isi_ty (.base (.int i)) (by decide +kernel : kitB "int" "str" = some false) q
  · exact isi_ty (.base (.bl b)) (by decide +kernel : kitB "bool" "str" = some false) q
  · exact isi_ty (.base .non) (by decide +kernel : kitB "NoneType" "str" = some false) q
  · exact isi_ty (.base (.lst hp)) (by decide +kernel : kitB "list" "str" = some false) q
  · exact isi_ty (.base (.tup hp)) (by decide +kernel : kitB "tuple" "str" = some false) q
  · exact isi_ty (.base (.dK hp)) (by decide +kernel : kitB "dict" "str" = some false) q
def sp_readE (K : PySem.W.Frag) : Sp := fun vs H Q E => ∃ x : V, vs = [x] ∧ ((∃ L, x = .str (tx L) ∧ L.length ≤ 900 ∧ (∀ rs, runsD [] L = some rs → ∀ (p : Addr) (ts : List Addr) (H' : Hp), H p = none → Same H H' → H' p = some (.lst (ts.map V.ref)) → RL H' ts rs → Q (.ref p) H') ∧
  (runsD [] L = none → ∀ H', Same H H' → E (.ref (He.ga K "NoPattern")) none H')) ∨ (NoTxE H x ∧ ∀ H', Same H H' → E (.ref (He.ga K "NoPattern")) none H'))
set_option maxHeartbeats 8000000 in
theorem okX_read (T : Env fa fn K mg) : Good P w K mg base (L2N.CX P w) 2 ("read_runs", none) ["text"] (sp_readE K) := by
  have GX_amount_of := okX_amount (P := P) (w := w) (base := base) T
  refine good_mkX T 30 (d := d_read_runs) (N := ["text", "runs", "begin", "at", "sign"]) (ps := ["text"]) rfl rfl sc_read_runs (fun _ _ _ _ _ _ us hl => match us, hl with | [_], _ => rfl) (fun vs H Q E h => ?_) (fun f cdv A outer s H vs Q E hr h => ?_)
  · obtain ⟨x, rfl, _⟩ := h; rfl
  · obtain ⟨x, rfl, h⟩ := h
    have hsz := sizeBig
    refine ⟨_, (pss_cons (ps_if (pt_not (pt_val (pe_callB (call_isiK K rfl) (by rfl) (T.free 1) (by decide +kernel) (pa_cons (pv 0) (pa_cons (pe_bltn (v := V.ty "str") rfl (T.free 3) (by decide +kernel) rfl) pa_nil))))) (pss_one (ps_raiseT K rfl (T.exf (List.mem_of_getElem? (i := 2) rfl)) (T.glo 41) rfl (L2N.takes_of rfl rfl rfl rfl) rfl)) pss_nil)
      (pss_cons (ps_set (i := 1) sc_read_runs.nd rfl (Or.inl rfl) (pe_lst pa_nil))
      (pss_cons (ps_set (i := 2) sc_read_runs.nd rfl (Or.inl rfl) pe_int)
      (pss_cons (ps_for (passes_of rfl) rfl (pi_enumS (by rfl) (T.free 10) (pa_cons (pv 0) pa_nil)) (pg_tup rfl (pgs_cons (pg_name (i := 3) sc_read_runs.nd rfl (Or.inl rfl)) (pgs_cons (pg_name (i := 4) sc_read_runs.nd rfl (Or.inl rfl)) pgs_nil))) (pss_cons (ps_if (pt_cmpR op_in_sign (pv 4) (pe_gstr (T.str 42) rfl) rfl) (pss_one ps_continue) pss_nil)
      (pss_cons (ps_if (pt_cmpR op_notIn_sign (pv 4) (pe_gstr (T.str 43) rfl) rfl) (pss_one (ps_raiseT K rfl (T.exf (List.mem_of_getElem? (i := 2) rfl)) (T.glo 41) rfl (L2N.takes_of rfl rfl rfl rfl) rfl)) pss_nil)
      (pss_cons (ps_expr (pe_bm PySem.F.plainAttrs_list PySem.F.slot_list_append PySem.F.type_list_append mt_append (pv 1) (pa_cons (pe_tup (pa_cons (pe_cgX K rfl (L2N.takes_of rfl rfl rfl rfl) GX_amount_of (hr.mono (by decide)) (T.glo 44) (pa_cons (pe_slice sl_str (pv 0) (po_some (pv 2)) (po_some (pv 3))) pa_nil)) (pa_cons (pv 4) pa_nil))) pa_nil)))
      (pss_one (ps_set (i := 2) sc_read_runs.nd rfl (Or.inl rfl) (pe_op op_add (pv 3) pe_int)))))))
      (pss_cons (ps_if (pt_cmpR op_lt (pv 2) (pe_callB call_len_str (by rfl) (T.free 4) (by decide +kernel) (pa_cons (pv 0) pa_nil)) (nomark _)) (pss_one (ps_raiseT K rfl (T.exf (List.mem_of_getElem? (i := 2) rfl)) (T.glo 41) rfl (L2N.takes_of rfl rfl rfl rfl) rfl)) pss_nil)
      (pss_one (ps_ret (pv 1)))))))), ?_⟩
    rcases h with ⟨L, rfl, hL, hy, hn⟩ | ⟨hx, q⟩
    · walk_at "rd"
      refine isi_ty (.base (.str _)) (by decide +kernel : kitB "str" "str" = some true) ?_
      walk_at "rd"
      refine rd_new (hn := by show 0 ≤ sizeLine; decide) fun p hp => ?_
      have sp := same_upd (o := HO.lst []) hp
      walk_at "rd"
      refine rd_iES ?_
      walk_at "rd"
      refine ⟨_, rfl, ?_⟩
      refine for_it (walk_enumS (x := tx L)) (fun i σ H' => ∃ (a acc L' : List Nat) (rs : List Rn) (ts : List Addr) (x3 x4 : Option V), σ = [some (.str (tx L)), some (.ref p), some (.int ((a.length : Nat) : Int)), x3, x4] ∧ Same H H' ∧ H' p = some (.lst (ts.map V.ref)) ∧ RL H' ts rs ∧ L = a ++ (acc ++ L') ∧
        i = a.length + acc.length ∧ rs.length ≤ i ∧ (∀ c ∈ acc, 48 ≤ c ∧ c ≤ 57) ∧ runsD [] L = (runsD acc L').map (rs ++ ·)) ?_ (fun _ _ _ _ _ => trivial) ?_ ?_
      · refine ⟨[], [], L, [], [], none, none, rfl, sp, upd_same, RL.nil, rfl, rfl, Nat.le_refl _, (fun c m => by cases m), ?_⟩
        cases runsD [] L <;> rfl
      · rintro i x σ H1 H2 hi ⟨a, acc, L', rs, ts, x3, x4, rfl, sm, hpl, hRL, hLd, hi2, hrs, hf, hD⟩ ⟨T', c, rfl, hT', hget, rfl⟩
        have hget' : L[i]? = some c := by simpa [tx] using hget
        have hil := (List.getElem?_eq_some_iff.mp hget').1
        have sT := same_upd (o := HO.tup [V.int (i : Int), V.str ⟨#[c]⟩]) hT'
        have hT2 : (upd H1 T' (HO.tup [V.int (i : Int), V.str ⟨#[c]⟩])) T' = some (.tup [V.int (i : Int), V.str ⟨#[c]⟩]) := upd_same
        obtain ⟨L2, rfl⟩ : ∃ L2, L' = c :: L2 := by
          have e : L = (a ++ acc) ++ L' := by rw [hLd, List.append_assoc]
          rw [e, List.getElem?_append_right (by rw [List.length_append]; omega), List.length_append, show i - (a.length + acc.length) = 0 by omega] at hget'
          cases L' with
          | nil => cases hget'
          | cons d L2 => cases hget'; exact ⟨L2, rfl⟩
        have hpl2 := sT _ _ hpl
        have sm2 := sm.trans sT
        have R2 := hRL.keep (Tup.of sT)
        generalize upd H1 T' (HO.tup [V.int (i : Int), V.str ⟨#[c]⟩]) = H2 at *
        clear hpl sm hRL sT
        walk_at "rd"
        refine ⟨c, _, rfl, rfl, ?_⟩
        rw [in_figs]
        rw [runsD_cons] at hD
        walk_at "rd"
        refine ite_d (fun z => ?_) (fun z => ?_)
        · walk_at "rd"
          rw [if_pos z] at hD
          exact ⟨a, acc ++ [c], L2, rs, ts, _, _, rfl, sm2, hpl2, R2, by rw [hLd]; simp, by rw [List.length_append, List.length_singleton]; omega, by omega, (fun d m => by
            rcases List.mem_append.mp m with m | m
            · exact hf d m
            · rw [List.mem_singleton.mp m]; exact z), hD⟩
        · rw [if_neg z] at hD
          walk_at "rd"
          refine ⟨c, _, rfl, rfl, ?_⟩
          rw [in_signs]
          walk_at "rd"
          refine ite_nd (fun z2 => ?_) (fun z2 => ?_)
          · walk_at "rd"
            rw [if_neg z2] at hD
            exact rd_raise (hn hD _ sm2)
          rw [if_pos z2] at hD
          walk_at "rd"
          refine rd_tyL hpl2 ?_
          walk_at "rd"
          refine rd_callS ?_
          walk_at "rd"
          refine ⟨_, rfl, len_ok (by omega), ?_⟩
          have ecut : cutS (tx L) (some ((a.length : Nat) : Int)) (some ((i : Nat) : Int)) = tx acc := by rw [hLd, hi2, cut_mid]
          rw [ecut]
          refine ⟨acc, rfl, hf, by rw [hLd, List.length_append, List.length_append] at hL; omega, fun n hn' => ?_, fun hno => ?_⟩
          · rw [hn'] at hD
            walk_at "rd"
            refine rd_new (hn := by show 2 ≤ sizeLine; decide) fun t ht' => ?_
            have st := same_upd (o := HO.tup [V.int (n : Int), V.str ⟨#[c]⟩]) ht'
            have U3 : (upd H2 t (HO.tup [V.int (n : Int), V.str ⟨#[c]⟩])) t = some (.tup [.int (((n, c) : Rn).1 : Int), .str (tx [((n, c) : Rn).2])]) := upd_same
            have hpl3 := st _ _ hpl2
            have R3 := (R2.keep (Tup.of st)).app (t := t) (r := (n, c)) U3
            have sm3 := sm2.trans st
            have lts := R2.1
            generalize upd H2 t (HO.tup [V.int (n : Int), V.str ⟨#[c]⟩]) = H3 at *
            walk_at "rd"
            refine rd_append hpl3 (by rw [List.length_map]; omega) ?_
            walk_at "rd"
            refine ⟨a ++ (acc ++ [c]), [], L2, rs ++ [(n, c)], ts ++ [t], some (.int (i : Int)), some (.str ⟨#[c]⟩), ?_, same_put sm3 hp, by rw [upd_same, List.map_append]; rfl, R3.keep (tup_put hpl3), by rw [hLd]; simp, by simp only [List.length_append, List.length_singleton, List.length_nil]; omega, by rw [List.length_append, List.length_singleton]; omega, (fun d m => by cases m), ?_⟩
            · have e : (((a ++ (acc ++ [c])).length : Nat) : Int) = (i : Int) + 1 := by
                rw [List.length_append, List.length_append, List.length_singleton, hi2]; omega
              rw [e]; rfl
            · rw [hD]
              cases runsD [] L2 with
              | none => rfl
              | some r0 => simp
          · rw [hno] at hD
            exact hn hD _ sm2
      · rintro σ H' ⟨a, acc, L', rs, ts, x3, x4, rfl, sm, hpl, hRL, hLd, hi2, hrs, hf, hD⟩
        have hsz2 : (tx L).cps.size = L.length := by simp [tx]
        rw [hsz2] at hi2
        have eL : L' = [] := by
          have := congrArg List.length hLd
          rw [List.length_append, List.length_append] at this
          exact List.eq_nil_of_length_eq_zero (by omega)
        subst eL
        rw [runsD_nil] at hD
        walk_at "rd"
        refine ⟨_, rfl, len_ok (by omega), ?_⟩
        walk_at "rd"
        rw [tx_len]
        refine ite_d (fun z => ?_) (fun z => ?_)
        · walk_at "rd"
          rw [if_neg (fun q => by rw [q] at hi2; simp only [List.length_nil] at hi2; omega)] at hD
          exact rd_raise (hn hD _ sm)
        · walk_at "rd"
          rw [if_pos (List.eq_nil_of_length_eq_zero (by omega))] at hD
          have e : runsD [] L = some rs := by
            rw [hD]
            show some (rs ++ []) = some rs
            rw [List.append_nil]
          exact hy rs e p ts H' hp sm hpl hRL
    · walk_at "rd"
      refine isi_noTx hx ?_
      walk_at "rd"
      exact rd_raise (q _ (Same.refl _))
end
end JF

/-! ### the ends of a pattern, read or refused -/
namespace JF
open PySem PySem.Spec PyProof.Rows L2
/-- a text without the signs - ahead -/
def unMinus : List Nat → List Nat
  | 45 :: L => unMinus L
  | L => L
/-- a place that a text tells -/
def endD (L : List Nat) : Prop := (unMinus L).length ≤ 13 ∧ okW L
theorem unMinus_eq : ∀ L : List Nat, (unMinus L).length = L.length - (L.takeWhile fun c => c == 45).length
  | [] => rfl
  | c :: L => by
    unfold unMinus
    split
    · next L' q =>
      cases q
      have e : ((45 :: L).takeWhile fun c => c == 45) = 45 :: L.takeWhile fun c => c == 45 := List.takeWhile_cons_of_pos rfl
      rw [e, List.length_cons, List.length_cons, unMinus_eq L]
      omega
    · next q =>
      have n : ¬ (c == 45) = true := fun z => q L (by rw [beq_iff_eq.mp z])
      have e2 : ((c :: L).takeWhile fun c => c == 45) = [] := List.takeWhile_cons_of_neg n
      rw [e2]
      rfl
section
variable {P : Program} {w : World} {K : PySem.W.Frag} {mg : Str → Option Value} {base : Heap}
def sp_endE (K : PySem.W.Frag) : Sp := fun vs H Q E => ∃ L : List Nat, vs = [.str (tx L)] ∧ L.length ≤ 900 ∧ (endD L → Q (.int (valW L)) H) ∧ (¬ endD L → E (.ref (He.ga K "NoPattern")) none H)
theorem okX_endE (T : Env fa fn K mg) : Good P w K mg base (L2.CX P w) 2 ("read_end", none) ["text"] (sp_endE K) := by
  have GX_read_whole := okX_rw (P := P) (w := w) (base := base) T
  refine good_mkV T 31 (d := d_read_end) (N := ["text", "found"]) (ps := ["text"]) rfl rfl sc_read_end (fun _ _ _ _ _ _ us hl => match us, hl with | [_], _ => rfl) (fun vs H Q E h => ?_) (fun f cdv A outer s H vs Q E hr h => ?_)
  · obtain ⟨L, rfl, _⟩ := h; rfl
  · obtain ⟨L, rfl, hL, hy, hn⟩ := h
    have hsz := sizeBig
    refine ⟨_, (pss_cons (ps_if (pt_cmpR op_gt (pe_callB call_len_str (by rfl) (T.free 4) (by decide +kernel) (pa_cons (pe_m1 PySem.F.slot_str_lstrip PySem.F.type_str_lstrip mt_lstripChars (pv 0) pe_str) pa_nil)) (pe_gint (T.int 40) rfl) (nomark _)) (pss_one (ps_raiseT K rfl (T.exf (List.mem_of_getElem? (i := 2) rfl)) (T.glo 41) rfl (takesN (L2.takes_of rfl rfl rfl rfl)) rfl)) pss_nil)
      (pss_cons (ps_tryR K rfl rfl rfl ⟨rfl, by decide, .inl (T.glo 7)⟩ (passC_of rfl) (L2.takes_of rfl rfl rfl rfl) (fun W pn xe tk pw => (pss_one (ps_set (i := 1) sc_read_end.nd rfl (Or.inl rfl) (pe_cgX K rfl tk GX_read_whole (hr.mono (by decide)) (T.glo 45) (pa_cons (pv 0) pa_nil)))))
      (fun a oe cls d pn tkr hot => (pss_one (ps_raiseHT K rfl (T.exf (List.mem_of_getElem? (i := 2) rfl)) (T.glo 41) hot tkr rfl))))
      (pss_one (ps_ret (pv 1))))), ?_⟩
    walk_at "rd"
    refine rd_m1 ?_
    walk_at "rd"
    refine rd_st ?_
    walk_at "rd"
    refine ⟨_, _, rfl, rfl, len_ok (by omega), ?_⟩
    have el := lstrip_len L
    rw [← unMinus_eq] at el
    have eu : (unMinus L).length ≤ L.length := by rw [unMinus_eq]; omega
    walk_at "rd"
    refine ⟨_, rfl, by rw [el]; omega, ?_⟩
    rw [el]
    walk_at "rd"
    refine ite_d (fun z => ?_) (fun z => ?_)
    · walk_at "rd"
      exact rd_raise (hn fun e => by have := e.1; omega)
    walk_at "rd"
    refine rd_tryR ?_
    walk_at "rd"
    refine rd_callS ?_
    walk_at "rd"
    refine ⟨_, rfl, .inl ⟨L, rfl, by omega, fun ok => ?_, fun no => ?_⟩⟩
    · walk_at "rd"
      exact hy ⟨by omega, ok⟩
    · exact ⟨true, T.exm (List.mem_of_getElem? (i := 0) rfl), fun _ a _ => rd_raise (hn fun e => no e.2), fun z => nomatch z⟩
end
end JF

/-! ### what a text tells as a pattern: the plain law -/
namespace JF
open PySem PySem.Spec PyProof.Rows L2
/-- a text cut at the first such sign -/
def cutC (c : Nat) : List Nat → Option (List Nat × List Nat)
  | [] => none
  | d :: L => if d = c then some ([], L) else (cutC c L).map fun p => (d :: p.1, p.2)
theorem cutC_some {c : Nat} : ∀ {L A B : List Nat}, cutC c L = some (A, B) → L = A ++ c :: B ∧ c ∉ A
  | [], _, _, h => by cases h
  | d :: L, A, B, h => by
    unfold cutC at h
    split at h
    · next z =>
      cases h
      exact ⟨by rw [z]; rfl, by simp⟩
    · next z =>
      cases e : cutC c L with
      | none => rw [e] at h; cases h
      | some p =>
        rw [e] at h
        obtain ⟨A', B'⟩ := p
        cases h
        obtain ⟨e1, e2⟩ := cutC_some e
        exact ⟨by rw [e1]; rfl, fun m => by
          rcases List.mem_cons.mp m with m | m
          · exact z m.symm
          · exact e2 m⟩
theorem cutC_none {c : Nat} : ∀ {L : List Nat}, cutC c L = none → c ∉ L
  | [], _ => by simp
  | d :: L, h => by
    unfold cutC at h
    split at h
    · cases h
    · next z =>
      cases e : cutC c L with
      | some p => rw [e] at h; cases h
      | none =>
        intro m
        rcases List.mem_cons.mp m with m | m
        · exact z m.symm
        · exact cutC_none e m
theorem part_cut {L A B : List Nat} {c : Nat} {z : Str} (hz : z = tx [c]) (h : cutC c L = some (A, B)) : Txt.partition (tx L) z = (tx A, z, tx B) := by
  obtain ⟨e, n⟩ := cutC_some h
  rw [e]
  exact part_at hz n
theorem part_no {L : List Nat} {c : Nat} {z : Str} (hz : z = tx [c]) (h : cutC c L = none) : Txt.partition (tx L) z = (tx L, Str.empty, Str.empty) := by
  subst hz
  exact TL.partition_none (show TL.tl (tx [c]) = c :: [] from rfl) (show c ∉ L from cutC_none h)
theorem part_any (L : List Nat) {c : Nat} {z : Str} (hz : z = tx [c]) : ∃ (A : List Nat) (zc : Str) (B : List Nat), Txt.partition (tx L) z = (tx A, zc, tx B) ∧ A.length ≤ L.length ∧ B.length ≤ L.length ∧ ((zc = Str.ofString "" ∧ cutC c L = none) ∨ (zc = z ∧ cutC c L = some (A, B))) := by
  cases e : cutC c L with
  | none => exact ⟨L, Str.ofString "", [], by rw [part_no hz e, tx_nil]; rfl, Nat.le_refl _, Nat.zero_le _, .inl ⟨rfl, rfl⟩⟩
  | some p =>
    obtain ⟨A, B⟩ := p
    have h := (cutC_some e).1
    refine ⟨A, z, B, part_cut hz e, ?_, ?_, .inr ⟨rfl, rfl⟩⟩
    · rw [h, List.length_append]; omega
    · rw [h, List.length_append, List.length_cons]; omega
open Classical in
/-- the places and the runs that a text tells as a pattern -/
noncomputable def patD (L : List Nat) : Option (Int × Int × List Rn) := match cutC 58 L with
  | none => none
  | some (E, B) => match cutC 44 E with
    | none => none
    | some (l, t) => if endD l ∧ endD t then (runsD [] B).map fun rs => (valW l, valW t, rs) else none
theorem unMinus_len : ∀ L : List Nat, (unMinus L).length ≤ L.length
  | [] => Nat.le_refl _
  | c :: L => by
    unfold unMinus
    split
    · next h =>
      cases h
      exact Nat.le_succ_of_le (unMinus_len L)
    · exact Nat.le_refl _
theorem endD_lt {L : List Nat} (h : endD L) : (valW L).natAbs < 10 ^ 13 := by
  obtain ⟨h1, h2, h3, h4, h5⟩ := h
  have e : (figsOf L).length ≤ 13 := by
    unfold figsOf at h2 h4 ⊢
    split
    · next z =>
      cases L with
      | nil => exact Nat.zero_le _
      | cons c l =>
        cases z
        have hh : (45 :: l).head? = some 45 := rfl
        rw [if_pos hh] at h2 h4
        have e1 : unMinus (45 :: l) = unMinus l := rfl
        have e2 : unMinus l = l := by
          cases l with
          | nil => rfl
          | cons d l =>
            have hd := h4 d List.mem_cons_self
            unfold unMinus
            split
            · next q => cases q; omega
            · rfl
        rw [e1, e2] at h1
        exact h1
    · next z =>
      rw [if_neg z] at h2 h4
      have e2 : unMinus L = L := by
        cases L with
        | nil => rfl
        | cons d l =>
          unfold unMinus
          split
          · next q => cases q; exact absurd rfl z
          · rfl
      rw [e2] at h1
      exact h1
  have lt := Nat.lt_of_lt_of_le (dig_lt _ h4) (Nat.pow_le_pow_right (by decide) e)
  unfold valW
  split
  · omega
  · omega
end JF

/-! ### patterns read or refused, whatever the text -/
namespace JF
open PySem PySem.Spec PyProof.Rows L2 NdefX LamX
section
variable {P : Program} {w : World} {K : PySem.W.Frag} {mg : Str → Option Value} {base : Heap}
def sp_hputX (K : PySem.W.Frag) : Sp := fun vs H _ E => ∃ (h : Addr) (a : GA) (dx : Addr) (f left x y : Int) (r : Rn), vs = [.ref h, .int (r.1 : Int), .str (tx [r.2])] ∧ H h = some (HandO K dx a f left x y) ∧ RnW r ∧ r.2 ≠ 47 ∧ r.2 ≠ 46 ∧ ¬ StripIn (x, y, (r.1 : Int), (r.2 : Int) - 64) ∧ ∀ H', Same H H' → E (.ref (He.ga K "TooFar")) none H'
theorem okX_hput (T : Env fa fn K mg) : Good P w K mg base (L2N.CX P w) 61 ("Hand", some "put") ["self", "amount", "sign"] (sp_hputX K) := by
  have GX_filled := okX_filledFar (P := P) (w := w) (base := base) T
  refine good_mkX T 33 (d := d_Hand_put) (N := ["self", "amount", "sign", "box"]) (ps := ["self", "amount", "sign"]) rfl rfl sc_Hand_put (fun _ _ _ _ _ _ us hl => match us, hl with | [_, _, _], _ => rfl) (fun vs H Q E h => ?_) (fun f cdv A outer σ0 H vs Q E hr h => ?_)
  · obtain ⟨h, a, dx, f, left, x, y, r, rfl, _⟩ := h; rfl
  · obtain ⟨h, a, dx, f, left, x, y, ⟨n, c⟩, rfl, hh, hw, z47, z46, hbad, k⟩ := h
    have cl := T.cls 52
    have n1 := T.noat 108
    have n2 := T.noat 107
    have n3 := T.noat 109
    have n4 := T.noat 110
    have n5 := T.noat 111
    have hh' : H h = some (.ins (He.ga K "Hand") dx [("grove", .ref a.g), ("field", .int f), ("left", .int left), ("x", .int x), ("y", .int y)]) := hh
    obtain ⟨c1, c7, rest, ho⟩ := letter_at hw.2 z47 z46
    have n0 : 1 ≤ n := hw.1
    refine ⟨_, (pss_cons (ps_if (pt_cmpR op_eq (pv 2) pe_str (nomark _)) (pss_cons (ps_fld (pv 0) (pe_fldK K rfl (pv 0) rfl) rfl)
      (pss_cons (ps_fldaug (pv 0) (pv 1) in_add)
      (pss_one ps_retN))) pss_nil)
      (pss_cons (ps_if (pt_cmpR op_ne (pv 2) pe_str (nomark _)) (pss_cons (ps_set (i := 3) sc_Hand_put.nd rfl (Or.inl rfl) (pe_tup (pa_cons (pe_fldK K rfl (pv 0) rfl) (pa_cons (pe_fldK K rfl (pv 0) rfl) (pa_cons (pv 1) (pa_cons pe_int pa_nil))))))
      (pss_one (ps_fld (pv 0) (pe_cgX K rfl (L2N.takes_of rfl rfl rfl rfl) GX_filled (hr.mono (by decide)) (T.glo 46) (pa_cons (pe_fldK K rfl (pv 0) rfl) (pa_cons (pe_fldK K rfl (pv 0) rfl) (pa_cons (pv 3) (pa_cons (pe_m1 PySem.F.slot_str_index PySem.F.type_str_index mt_sindex (pe_gstr (T.str 47) rfl) (pv 2)) pa_nil))))) rfl))) pss_nil)
      (pss_one (ps_fldaug (pv 0) (pv 1) in_add)))), ?_⟩
    walk_at "rd"
    rw [tx_slash, tx_eq, decide_eq_false (by simpa using z47)]
    walk_at "rd"
    rw [tx_dot, tx_eq, decide_eq_false (by simpa using z46)]
    walk_at "rd"
    refine rd_new (hn := by show 4 ≤ sizeLine; decide) fun t ht => ?_
    have s1 := same_upd (o := HO.tup [V.int x, V.int y, V.int (n : Int), V.int 1]) ht
    have B1 : BoxT (upd H t (HO.tup [V.int x, V.int y, V.int (n : Int), V.int 1])) t x y (n : Int) 1 := upd_same
    have hh1 : (upd H t (HO.tup [V.int x, V.int y, V.int (n : Int), V.int 1])) h = some (.ins (He.ga K "Hand") dx [("grove", .ref a.g), ("field", .int f), ("left", .int left), ("x", .int x), ("y", .int y)]) := s1 _ _ hh'
    generalize upd H t (HO.tup [V.int x, V.int y, V.int (n : Int), V.int 1]) = H1 at *
    walk_at "rd"
    refine rd_callS ?_
    walk_at "rd"
    refine rd_m1 ?_
    walk_at "rd"
    refine rd_st ?_
    walk_at "rd"
    refine ⟨_, _, _, _, rfl, rfl, ho, ?_⟩
    walk_at "rd"
    exact ⟨_, _, _, t, x, y, (n : Int), 1, rfl, B1, by omega, by decide, (fun z => hbad ⟨z.1, z.2.1, z.2.2.1, z.2.2.2⟩), k H1 s1⟩
def sp_patE (K : PySem.W.Frag) : Sp := fun vs H Q E => ∃ (a : GA) (rows : List (Int × Addr)) (q : List Sq) (x : V), vs = [.ref a.g, x] ∧ GAt (CG K) H a rows q ∧ TabsN (tabsN K) H ∧ ((NoTxE H x ∧ E (.ref (He.ga K "NoPattern")) none H) ∨ ∃ L, x = .str (tx L) ∧ L.length ≤ 400 ∧ q.length + 30000 < 15000000 ∧
  (patD L = none → ∀ H' rows' q', FStep (CG K) H a rows q H' rows' q' → TabsN (tabsN K) H' → q'.length ≤ q.length + 50 → E (.ref (He.ga K "NoPattern")) none H') ∧
  ∀ left top rs, patD L = some (left, top, rs) → ∃ N, RowN (strips left left top rs) N ∧ q.length + (strips left left top rs).length * (8820 * N + 6000) + 8820 * N + 30000 < 15000000 ∧
    ((∃ s ∈ strips left left top rs, ¬ StripIn s) → ∀ H' rows' q', FStep (CG K) H a rows q H' rows' q' → TabsN (tabsN K) H' → q'.length ≤ q.length + 50 + (strips left left top rs).length * (8820 * N + 6000) → E (.ref (He.ga K "TooFar")) none H') ∧
    ((∀ s ∈ strips left left top rs, StripIn s) → ∀ H' rows' q' (m : Nat) T, FStep (CG K) H a rows q H' rows' q' → TabsN (tabsN K) H' → q'.length ≤ q.length + 50 + (strips left left top rs).length * (8820 * N + 6000) → q'[m]? = some T → 1 ≤ T.level → T.level ≤ 41 → T.Least → (∀ u v, T.val u v = layS (fun _ _ => 0) (strips left left top rs) u v) → Q (.int (m : Int)) H'))
set_option maxHeartbeats 16000000 in
theorem okX_patE (T : Env fa fn K mg) (TB : ∀ p ∈ tfs, TabB base mg (He.codeOf K p) (He.tabOf K (He.codeOf K p))) : Good P w K mg base (L2.CX P w) 62 ("read_pattern", none) ["grove", "text"] (sp_patE K) := by
  have GX_read_end := okX_endE (P := P) (w := w) (base := base) T
  have G_Hand_init := ok_hinit (P := P) (w := w) (base := base) T
  have GX_read_runs := okX_read (P := P) (w := w) (base := base) T
  have G_Hand_put := ok_hput (P := P) (w := w) (base := base) T TB
  have GX_Hand_put := okX_hput (P := P) (w := w) (base := base) T
  refine good_mkV T 34 (d := d_read_pattern) (N := ["grove", "text", "ends", "colon", "body", "left", "comma", "top", "hand", "amount", "sign"]) (ps := ["grove", "text"]) rfl rfl sc_read_pattern (fun _ _ _ _ _ _ us hl => match us, hl with | [_, _], _ => rfl) (fun vs H Q E h => ?_) (fun f cdv A outer σ0 H vs Q E hr h => ?_)
  · obtain ⟨a, rows, q, x, rfl, _⟩ := h; rfl
  · obtain ⟨a, rows, q, x, rfl, G, tabs, h⟩ := h
    have cl := T.cls 52
    have n2 := T.noat 107
    refine ⟨_, (pss_cons (ps_if (pt_not (pt_val (pe_callB (call_isiK K rfl) (by rfl) (T.free 1) (by decide +kernel) (pa_cons (pv 1) (pa_cons (pe_bltn (v := V.ty "str") rfl (T.free 3) (by decide +kernel) rfl) pa_nil))))) (pss_one (ps_raiseT K rfl (T.exf (List.mem_of_getElem? (i := 2) rfl)) (T.glo 41) rfl (takesN (L2.takes_of rfl rfl rfl rfl)) rfl)) pss_nil)
      (pss_cons (ps_asg (pe_partition (pv 1) pe_str) (pg_tup rfl (pgs_cons (pg_name (i := 2) sc_read_pattern.nd rfl (Or.inl rfl)) (pgs_cons (pg_name (i := 3) sc_read_pattern.nd rfl (Or.inl rfl)) (pgs_cons (pg_name (i := 4) sc_read_pattern.nd rfl (Or.inl rfl)) pgs_nil)))))
      (pss_cons (ps_asg (pe_partition (pv 2) pe_str) (pg_tup rfl (pgs_cons (pg_name (i := 5) sc_read_pattern.nd rfl (Or.inl rfl)) (pgs_cons (pg_name (i := 6) sc_read_pattern.nd rfl (Or.inl rfl)) (pgs_cons (pg_name (i := 7) sc_read_pattern.nd rfl (Or.inl rfl)) pgs_nil)))))
      (pss_cons (ps_if (PW.pt (pw_or (pt_cmpR op_eq (pv 3) pe_str (nomark _)) (pw_or1 (pt_cmpR op_eq (pv 6) pe_str (nomark _))))) (pss_one (ps_raiseT K rfl (T.exf (List.mem_of_getElem? (i := 2) rfl)) (T.glo 41) rfl (takesN (L2.takes_of rfl rfl rfl rfl)) rfl)) pss_nil)
      (pss_cons (ps_set (i := 8) sc_read_pattern.nd rfl (Or.inl rfl) (pe_mkgK K rfl (T.mkr 48) G_Hand_init (hr.mono (by decide)) (T.glo 49) (pa_cons (pv 0) (pa_cons (pe_cgC2 K rfl (L2.takes_of rfl rfl rfl rfl) GX_read_end (hr.mono (by decide)) (T.glo 50) (pa_cons (pv 5) pa_nil)) (pa_cons (pe_cgC2 K rfl (L2.takes_of rfl rfl rfl rfl) GX_read_end (hr.mono (by decide)) (T.glo 50) (pa_cons (pv 7) pa_nil)) pa_nil)))))
      (pss_cons (ps_for (passes_of rfl) rfl (pi_listK K rfl (pe_cgX K rfl (takesN (L2.takes_of rfl rfl rfl rfl)) GX_read_runs (hr.mono (by decide)) (T.glo 51) (pa_cons (pv 4) pa_nil))) (pg_tup rfl (pgs_cons (pg_name (i := 9) sc_read_pattern.nd rfl (Or.inl rfl)) (pgs_cons (pg_name (i := 10) sc_read_pattern.nd rfl (Or.inl rfl)) pgs_nil))) (pss_one (ps_expr (pe_or (pe_mgX K rfl (takesN (L2.takes_of rfl rfl rfl rfl)) (pv 8) (T.cls 52) (T.meth 53) GX_Hand_put (hr.mono (by decide)) (pa_cons (pv 9) (pa_cons (pv 10) pa_nil))) (pe_mgK K rfl (pv 8) (T.cls 52) (T.meth 53) G_Hand_put (hr.mono (by decide)) (pa_cons (pv 9) (pa_cons (pv 10) pa_nil)))))))
      (pss_one (ps_ret (pe_fldK K rfl (pv 8) rfl))))))))), ?_⟩
    rcases h with ⟨hx, kx⟩ | ⟨L, rfl, hL, hq0, hno, hsome⟩
    · walk_at "rd"
      refine isi_noTx hx ?_
      walk_at "rd"
      exact rd_raise kx
    walk_at "rd"
    refine isi_ty (.base (.str _)) (by decide +kernel : kitB "str" "str" = some true) ?_
    walk_at "rd"
    refine rd_m1 ?_
    walk_at "rd"
    refine rd_st ?_
    walk_at "rd"
    refine ⟨_, _, rfl, rfl, rfl, len_ok (by omega), fun p hp => ?_⟩
    obtain ⟨A, zc, B, eP, lA, lB, hP⟩ := part_any L tx_colon
    rw [eP]
    have s1 := same_upd (o := HO.tup [V.str (tx A), V.str zc, V.str (tx B)]) hp
    have T1 : (upd H p (HO.tup [V.str (tx A), V.str zc, V.str (tx B)])) p = some (.tup [V.str (tx A), V.str zc, V.str (tx B)]) := upd_same
    generalize upd H p (HO.tup [V.str (tx A), V.str zc, V.str (tx B)]) = H1 at *
    walk_at "rd"
    refine rd_m1 ?_
    walk_at "rd"
    refine rd_st ?_
    walk_at "rd"
    refine ⟨_, _, rfl, rfl, rfl, len_ok (by omega), fun p2 hp2 => ?_⟩
    obtain ⟨l, zd, t, eP2, ll, lt, hP2⟩ := part_any A tx_comma
    rw [eP2]
    have s2 := same_upd (o := HO.tup [V.str (tx l), V.str zd, V.str (tx t)]) hp2
    have T2 : (upd H1 p2 (HO.tup [V.str (tx l), V.str zd, V.str (tx t)])) p2 = some (.tup [V.str (tx l), V.str zd, V.str (tx t)]) := upd_same
    generalize upd H1 p2 (HO.tup [V.str (tx l), V.str zd, V.str (tx t)]) = H2 at *
    have s12 := s1.trans s2
    have G2 := G.same s12
    have tabs2 := tabs_same tabs s12
    have F2 : FStep (CG K) H a rows q H2 rows q := FStep.ext G2 (ExtN.of s12) fun b e => none_ofW2 s12 e
    walk_at "rd"
    rcases hP with ⟨rfl, hP⟩ | ⟨rfl, hP⟩
    · rw [decide_eq_true rfl]
      walk_at "rd"
      exact rd_raise (hno (by unfold patD; rw [hP]) _ _ _ F2 tabs2 (by omega))
    rw [show decide (Str.ofString ":" = Str.ofString "") = false by decide +kernel]
    walk_at "rd"
    rcases hP2 with ⟨rfl, hP2⟩ | ⟨rfl, hP2⟩
    · rw [decide_eq_true rfl]
      walk_at "rd"
      exact rd_raise (hno (by unfold patD; rw [hP]; dsimp only; rw [hP2]) _ _ _ F2 tabs2 (by omega))
    rw [show decide (Str.ofString "," = Str.ofString "") = false by decide +kernel]
    walk_at "rd"
    refine rd_mk ?_
    walk_at "rd"
    refine rd_callS ?_
    walk_at "rd"
    have pn : ¬ (endD l ∧ endD t) → patD L = none := fun z => by
      unfold patD
      rw [hP]
      dsimp only
      rw [hP2]
      dsimp only
      rw [if_neg z]
    refine ⟨l, rfl, by omega, fun el => ?_, fun nl => hno (pn fun z => nl z.1) _ _ _ F2 tabs2 (by omega)⟩
    walk_at "rd"
    refine rd_callS ?_
    walk_at "rd"
    refine ⟨t, rfl, by omega, fun et => ?_, fun nt => hno (pn fun z => nt z.2) _ _ _ F2 tabs2 (by omega)⟩
    have pe : patD L = (runsD [] B).map fun rs => (valW l, valW t, rs) := by
      unfold patD
      rw [hP]
      dsimp only
      rw [hP2]
      dsimp only
      rw [if_pos ⟨el, et⟩]
    have hl13 := endD_lt el
    have ht13 := endD_lt et
    walk_at "rd"
    intro hnd dx h0 hd0 hne
    have hg : hnd ≠ a.g := (ne_of_none G2.ob h0).symm
    have hm0 : hnd ∉ a.muts rows := G2.new_out h0
    have s3 : Same H2 (upd (upd H2 dx (.own hnd)) hnd (.ins (He.ga K "Hand") dx [])) := (same_upd hd0).trans (same_upd (by rw [upd_ne hne.symm]; exact h0))
    have L3 : (upd (upd H2 dx (.own hnd)) hnd (.ins (He.ga K "Hand") dx [])) hnd = some (.ins (He.ga K "Hand") dx []) := upd_same
    have F3 : FStep (CG K) H2 a rows q (upd (upd H2 dx (.own hnd)) hnd (.ins (He.ga K "Hand") dx [])) rows q := FStep.ext (G2.same s3) (ExtN.of s3) fun b e => none_ofW2 s3 e
    have tabs3 := tabs_same tabs2 s3
    have n1 := T.noat 108
    generalize upd (upd H2 dx (.own hnd)) hnd (.ins (He.ga K "Hand") dx []) = H3 at *
    refine ⟨a, rows, q, hnd, dx, valW l, valW t, rfl, L3, F3.gat, hg, hm0, by omega, fun H4 H5 r5 q5 m5 S5 l5 e5 k5 e5' => ?_⟩
    obtain rfl := upd_of k5 e5'
    have F4 : FStep (CG K) H2 a rows q H4 r5 q5 := (F3.put h0 L3 hg hm0 _).trans (FStep.of S5)
    have tabs4 := tabs_step (tabs_updI tabs3 L3 _) (F3.gat.updI L3 hg hm0 _) S5
    obtain ⟨L4, hm5⟩ := S5.own (b := hnd) upd_same hm0
    have F5 := F4.put h0 L4 hg hm5 (HandO K dx a (m5 : Int) (valW l) (valW l) (valW t))
    have tabs5 := tabs_updI tabs4 L4 (HandO K dx a (m5 : Int) (valW l) (valW l) (valW t))
    have L5 : (upd H4 hnd (HandO K dx a (m5 : Int) (valW l) (valW l) (valW t))) hnd = some (HandO K dx a (m5 : Int) (valW l) (valW l) (valW t)) := upd_same
    generalize upd H4 hnd (HandO K dx a (m5 : Int) (valW l) (valW l) (valW t)) = H5 at *
    clear F3 F4 tabs4 L4 L3 tabs3 s3 S5 k5 e5'
    refine ⟨rfl, ?_⟩
    walk_at "rd"
    refine rd_callS ?_
    walk_at "rd"
    refine ⟨_, rfl, .inl ⟨B, rfl, by omega, fun rs hrs p6 ts H6 hp6 s6 L6 R6 => ?_, fun hn6 H6 s6 => ?_⟩⟩
    rotate_left
    · exact hno (by rw [pe, hn6]; rfl) H6 _ _ (F2.trans (F5.trans (FStep.ext (F5.gat.same s6) (ExtN.of s6) fun b e => none_ofW2 s6 e))) (tabs_same tabs5 s6) (by omega)
    obtain ⟨hw, h5'⟩ := runsD_ok (fun c m => by cases m) hrs
    obtain ⟨N, hN, hq, kfar, kgood⟩ := hsome (valW l) (valW t) rs (by rw [pe, hrs]; rfl)
    generalize valW l = left at *
    generalize valW t = top at *
    have np6 := F5.gat.new_out hp6
    have F6 : FStep (CG K) H2 a rows q H6 r5 q5 := F5.trans (FStep.ext (F5.gat.same s6) (ExtN.of s6) fun b e => none_ofW2 s6 e)
    have tabs6 := tabs_same tabs5 s6
    have Lh6 := s6 _ _ L5
    have hp6' : p6 ≠ hnd := fun z => by rw [z, L5] at hp6; cases hp6
    obtain ⟨M, hM⟩ : ∃ M, M = 8820 * N + 6000 := ⟨_, rfl⟩
    rw [← hM] at kfar kgood hq
    obtain ⟨SS, hSS⟩ : ∃ SS, SS = strips left left top rs := ⟨_, rfl⟩
    rw [← hSS] at kfar kgood hq hN
    refine ⟨p6, rfl, ⟨_, SqL.of L6⟩, ?_⟩
    refine for_it (walk_list (xs := ts.map V.ref)) (fun i σ H' => ∃ (r2 : List (Int × Addr)) (q2 : List Sq) (f2 : Nat) (S2 : Sq) (x y : Int) (d : List Strip) (x9 x10 : Option V), σ = [some (.ref a.g), some (.str (tx L)), some (.str (tx A)), some (.str (Str.ofString ":")), some (.str (tx B)), some (.str (tx l)), some (.str (Str.ofString ",")), some (.str (tx t)), some (.ref hnd), x9, x10] ∧
      FStep (CG K) H2 a rows q H' r2 q2 ∧ TabsN (tabsN K) H' ∧ H' hnd = some (HandO K dx a (f2 : Int) left x y) ∧ hnd ∉ a.muts r2 ∧ H' p6 = some (.lst (ts.map V.ref)) ∧ p6 ∉ a.muts r2 ∧ RL H' ts rs ∧ d ++ strips left x y (rs.drop i) = SS ∧ (∀ s ∈ d, StripIn s) ∧
      q2[f2]? = some S2 ∧ 1 ≤ S2.level ∧ S2.level ≤ 41 ∧ S2.Least ∧ (∀ u v, S2.val u v = layS (fun _ _ => 0) d u v) ∧ q2.length ≤ q.length + 50 + d.length * M) ?_ ?_ ?_ ?_
    · exact ⟨r5, q5, m5, _, left, top, [], none, none, rfl, F6, tabs6, Lh6, hm5, L6, np6, R6, by rw [hSS]; rfl, (fun s h => by cases h), e5, by decide, by decide, Or.inl (by decide), fun u v => (Sq.val_even0 _ _ _), by simp only [List.length_nil]; omega⟩
    · rintro i σ H' _ ⟨r2, q2, f2, S2, x, y, d, x9, x10, rfl, F, tb, hh, hm, hp, np, R, _⟩
      exact SqL.of hp
    · rintro i v σ Ha Hb hi ⟨r2, q2, f2, S2, x, y, d, x9, x10, rfl, F, tb, hh, hm, hp, np, R, hd, dl0, e2, g1, g2, g3, gv, lq⟩ ⟨rfl, hv⟩
      have hi1 : i < ts.length := by rw [List.length_map] at hi; exact hi
      have hi2 : i < rs.length := by rw [← R.1]; exact hi1
      rw [List.getElem?_map, at_get hi1] at hv
      cases hv
      have hr := at_get hi2
      have ht' := R.2 i _ _ (at_get hi1) hr
      have hwr := hw _ (List.mem_of_getElem? hr)
      have hdr : rs.drop i = rs[i] :: rs.drop (i + 1) := List.drop_eq_getElem_cons hi2
      rw [hdr] at hd
      generalize rs[i] = r at *
      obtain ⟨n, c⟩ := r
      have ht2 : Hb ts[i] = some (.tup [.int (n : Int), .str (tx [c])]) := ht'
      have hh2 : Hb hnd = some (.ins (He.ga K "Hand") dx [("grove", .ref a.g), ("field", .int f2), ("left", .int left), ("x", .int x), ("y", .int y)]) := hh
      have dl : d.length ≤ SS.length := by rw [← hd, List.length_append]; omega
      have dm := Nat.mul_le_mul_right M dl
      walk_at "rd"
      by_cases bad : (c ≠ 47 ∧ c ≠ 46) ∧ ¬ StripIn (x, y, (n : Int), (c : Int) - 64)
      · obtain ⟨⟨z1, z2⟩, el⟩ := bad
        rw [strips_L z1 z2] at hd
        refine .inl ?_
        refine rd_methX ?_
        walk_at "rd"
        refine rd_methR hh2 (by rfl) ?_
        walk_at "rd"
        refine ⟨hnd, a, dx, f2, left, x, y, (n, c), rfl, hh, hwr.1, z1, z2, el, fun H' sm => ?_⟩
        exact kfar ⟨_, by rw [← hd]; exact List.mem_append_right _ List.mem_cons_self, el⟩ H' r2 q2 (F2.trans (F.trans (FStep.ext (F.gat.same sm) (ExtN.of sm) fun b e => none_ofW2 sm e))) (tabs_same tb sm) (by omega)
      have bad' : c ≠ 47 → c ≠ 46 → StripIn (x, y, (n : Int), (c : Int) - 64) := fun z1 z2 => Classical.byContradiction fun e => bad ⟨⟨z1, z2⟩, e⟩
      refine .inr ?_
      walk_at "rd"
      refine rd_methR hh2 (by rfl) ?_
      walk_at "rd"
      refine ⟨a, r2, q2, hnd, dx, f2, S2, left, x, y, (n, c), N, rfl, F.gat, e2, g1, g2, g3, hh, hg, hm, tb, hwr.1, fun z1 z2 => ?_, by omega, fun z H' ek eh => ?_, fun z H' ek eh => ?_, fun z1 z2 H1 H' r3 q3 m3 T3 F3 tb3 lq3 e3 b1 b2 b3 bv ek eh => ?_⟩
      · have z1' : c ≠ 47 := z1
        have z2' : c ≠ 46 := z2
        rw [strips_L z1' z2'] at hd
        exact ⟨bad' z1' z2', few_strip (s := (x, y, (n : Int), (c : Int) - 64)) (by rw [hd]; exact hN) gv⟩
      · have z' : c = 47 := z
        subst z'
        obtain rfl := upd_of ek eh
        rw [strips_47] at hd
        exact ⟨r2, q2, f2, S2, left, y + n, d, _, _, rfl, F.put h0 hh2 hg hm _, tabs_updI tb hh2 _, eh, hm, by rw [upd_ne hp6']; exact hp, np, R.keep (tup_updI hh2 _), hd, dl0, e2, g1, g2, g3, gv, lq⟩
      · have z' : c = 46 := z
        subst z'
        obtain rfl := upd_of ek eh
        rw [strips_46] at hd
        exact ⟨r2, q2, f2, S2, x + n, y, d, _, _, rfl, F.put h0 hh2 hg hm _, tabs_updI tb hh2 _, eh, hm, by rw [upd_ne hp6']; exact hp, np, R.keep (tup_updI hh2 _), hd, dl0, e2, g1, g2, g3, gv, lq⟩
      · have z1' : c ≠ 47 := z1
        have z2' : c ≠ 46 := z2
        obtain rfl := upd_of ek eh
        rw [strips_L z1' z2'] at hd
        obtain ⟨o1, o2⟩ := F3.own hh2 hm (fun _ z => by cases z)
        obtain ⟨o3, o4⟩ := F3.own hp np (fun _ z => by cases z)
        refine ⟨r3, q3, m3, T3, x + n, y, d ++ [(x, y, (n : Int), (c : Int) - 64)], _, _, rfl, (F.trans F3).put h0 o1 hg o2 _, tabs_updI tb3 o1 _, eh, o2, by rw [upd_ne hp6']; exact o3, o4, (R.keep (F3.tup F.gat)).keep (tup_updI o1 _), by rw [List.append_assoc]; exact hd, (fun s h => by
          rcases List.mem_append.mp h with h | h
          · exact dl0 s h
          · rw [List.mem_singleton.mp h]; exact bad' z1' z2'), e3, b1, b2, b3, fun u v => ?_, ?_⟩
        · rw [layS_snoc, bv u v, gv u v]
        · rw [List.length_append, List.length_singleton, Nat.add_mul, Nat.one_mul]
          omega
    · rintro σ H' ⟨r2, q2, f2, S2, x, y, d, x9, x10, rfl, F, tb, hh, hm, hp, np, R, hd, dl0, e2, g1, g2, g3, gv, lq⟩
      rw [List.length_map, R.1, List.drop_length] at hd
      have hd' : d = SS := by rw [← hd]; exact (List.append_nil _).symm
      have hh2 : H' hnd = some (.ins (He.ga K "Hand") dx [("grove", .ref a.g), ("field", .int f2), ("left", .int left), ("x", .int x), ("y", .int y)]) := hh
      subst hd'
      walk_at "rd"
      exact kgood dl0 H' r2 q2 f2 S2 (F2.trans F) tb lq e2 g1 g2 g3 gv
end
end JF

/-! ### _law_word: the one class of a refusal -/
namespace JF
open PySem PySem.Spec PyProof.Rows L2 NdefX LamX
/-- the classes asked for, each with its word -/
def wordsX : List (Str × Str) := [(Str.ofString "TooFar", Str.ofString "far"), (Str.ofString "NoPattern", Str.ofString "pattern")]
section
variable {P : Program} {w : World} {K : PySem.W.Frag} {mg : Str → Option Value} {base : Heap}
def sp_wordX (K : PySem.W.Frag) : Value → Option Addr → Addr → Sp := fun cls d a vs H Q _ => ∃ x wd, (x, wd) ∈ wordsX ∧ vs = [.ref a] ∧ cls = .ref (He.ga K x) ∧ d = none ∧ ∀ H' : Hp, Same H H' → Q (.str wd) H'
set_option maxHeartbeats 32000000 in
theorem okE_wordX (T : Env fa fn K mg) : GoodE P w K mg base 1 ("_law_word", none) ["_law_e"] (sp_wordX K) := by
  refine good_mkE T 55 (d := d_w_word) (N := ["_law_e", "_law_kinds", "_law_words"]) (ps := ["_law_e"]) rfl rfl sc_w_word (fun _ _ _ _ _ _ us hl => match us, hl with | [_], _ => rfl) (fun cls d a vs H Q E h => ?_) (fun f cdv A outer s H vs Q E p cls d hz hf hr h => ?_)
  · obtain ⟨x, wd, _, rfl, _⟩ := h; rfl
  obtain ⟨x, wd, hx, rfl, rfl, rfl, k⟩ := h
  have hu := Nat.lt_of_le_of_lt (Nat.add_le_add_left (by decide : 1 ≤ 200) _) hr.un
  simp only [wordsX, List.mem_cons, Prod.mk.injEq, List.not_mem_nil, or_false] at hx
  rcases hx with ⟨rfl, rfl⟩ | ⟨rfl, rfl⟩
  · have ec := (T.exf (List.mem_of_getElem? (i := 1) rfl)).ec
    refine ⟨_, (pss_cons (ps_set (i := 1) sc_w_word.nd rfl (Or.inl rfl) (pe_lst (pa_cons (pe_callB (call_isP K rfl List.mem_cons_self hz hf) (by rfl) (T.free 1) (by decide +kernel) (pa_cons (pv 0) (pa_cons (pe_grefK K rfl (T.glo 7) rfl) pa_nil))) (pa_cons (pe_callB (call_isP K rfl List.mem_cons_self hz hf) (by rfl) (T.free 1) (by decide +kernel) (pa_cons (pv 0) (pa_cons (pe_grefK K rfl (T.glo 67) rfl) pa_nil))) (pa_cons (pe_callB (call_isP K rfl List.mem_cons_self hz hf) (by rfl) (T.free 1) (by decide +kernel) (pa_cons (pv 0) (pa_cons (pe_grefK K rfl (T.glo 68) rfl) pa_nil))) (pa_cons (pe_callB (call_isP K rfl List.mem_cons_self hz hf) (by rfl) (T.free 1) (by decide +kernel) (pa_cons (pv 0) (pa_cons (pe_grefK K rfl (T.glo 69) rfl) pa_nil))) pa_nil))))))
      (pss_cons (ps_set (i := 1) sc_w_word.nd rfl (Or.inl rfl) (pe_op op_cat (pv 1) (pe_lst (pa_cons (pe_callB (call_isP K rfl List.mem_cons_self hz hf) (by rfl) (T.free 1) (by decide +kernel) (pa_cons (pv 0) (pa_cons (pe_grefK K rfl (T.glo 70) rfl) pa_nil))) (pa_cons (pe_callB (call_isP K rfl List.mem_cons_self hz hf) (by rfl) (T.free 1) (by decide +kernel) (pa_cons (pv 0) (pa_cons (pe_grefK K rfl (T.glo 71) rfl) pa_nil))) (pa_cons (pe_callB (call_isP K rfl List.mem_cons_self hz hf) (by rfl) (T.free 1) (by decide +kernel) (pa_cons (pv 0) (pa_cons (pe_grefK K rfl (T.glo 72) rfl) pa_nil))) pa_nil))))))
      (pss_cons (ps_set (i := 1) sc_w_word.nd rfl (Or.inl rfl) (pe_op op_cat (pv 1) (pe_lst (pa_cons (pe_callB (call_isP K rfl List.mem_cons_self hz hf) (by rfl) (T.free 1) (by decide +kernel) (pa_cons (pv 0) (pa_cons (pe_grefK K rfl (T.glo 39) rfl) pa_nil))) (pa_cons (pe_callB (call_isP K rfl List.mem_cons_self hz hf) (by rfl) (T.free 1) (by decide +kernel) (pa_cons (pv 0) (pa_cons (pe_grefK K rfl (T.glo 73) rfl) pa_nil))) (pa_cons (pe_callB (call_isP K rfl List.mem_cons_self hz hf) (by rfl) (T.free 1) (by decide +kernel) (pa_cons (pv 0) (pa_cons (pe_grefK K rfl (T.glo 74) rfl) pa_nil))) pa_nil))))))
      (pss_cons (ps_set (i := 1) sc_w_word.nd rfl (Or.inl rfl) (pe_op op_cat (pv 1) (pe_lst (pa_cons (pe_callB (call_isP K rfl List.mem_cons_self hz hf) (by rfl) (T.free 1) (by decide +kernel) (pa_cons (pv 0) (pa_cons (pe_grefK K rfl (T.glo 41) rfl) pa_nil))) (pa_cons (pe_callB (call_isP K rfl List.mem_cons_self hz hf) (by rfl) (T.free 1) (by decide +kernel) (pa_cons (pv 0) (pa_cons (pe_grefK K rfl (T.glo 75) rfl) pa_nil))) (pa_cons (pe_callB (call_isP K rfl List.mem_cons_self hz hf) (by rfl) (T.free 1) (by decide +kernel) (pa_cons (pv 0) (pa_cons (pe_grefK K rfl (T.glo 76) rfl) pa_nil))) pa_nil))))))
      (pss_cons (ps_if (PW.pt (pw_or (pt_not (pt_val (pe_callB (call_isP K rfl List.mem_cons_self hz hf) (by rfl) (T.free 1) (by decide +kernel) (pa_cons (pv 0) (pa_cons (pe_bltn (v := V.ty "ValueError") rfl (T.free 77) (by decide +kernel) rfl) pa_nil))))) (pw_or1 (pt_cmpR op_ne (pe_bm PySem.F.plainAttrs_list PySem.F.slot_list_count PySem.F.type_list_count (mt_bcount hu) (pv 1) (pa_cons pe_bl pa_nil)) pe_int (nomark _))))) (pss_one (ps_ret pe_str)) pss_nil)
      (pss_cons (ps_set (i := 2) sc_w_word.nd rfl (Or.inl rfl) (pe_lst (pa_cons pe_str (pa_cons pe_str (pa_cons pe_str (pa_cons pe_str (pa_cons pe_str (pa_cons pe_str (pa_cons pe_str pa_nil)))))))))
      (pss_cons (ps_set (i := 2) sc_w_word.nd rfl (Or.inl rfl) (pe_op op_cat (pv 2) (pe_lst (pa_cons pe_str (pa_cons pe_str (pa_cons pe_str (pa_cons pe_str (pa_cons pe_str (pa_cons pe_str pa_nil)))))))))
      (pss_one (ps_ret (pe_ix (ix_listK K rfl) (pv 2) (pe_bm PySem.F.plainAttrs_list PySem.F.slot_list_index PySem.F.type_list_index (mt_bindex hu) (pv 1) (pa_cons pe_bl pa_nil)) (fun _ _ => rfl))))))))))), ?_⟩
    walk_at "rd"
    refine rd_isX ec (T.exk (List.mem_of_getElem? (i := 15) rfl)) ?_
    walk_at "rd"
    refine rd_isX ec (T.exk (List.mem_of_getElem? (i := 16) rfl)) ?_
    walk_at "rd"
    refine rd_isX ec (T.exk (List.mem_of_getElem? (i := 17) rfl)) ?_
    walk_at "rd"
    refine rd_isX ec (T.exk (List.mem_of_getElem? (i := 18) rfl)) ?_
    walk_at "rd"
    refine rd_new (hn := by show 4 ≤ sizeLine; decide) fun p1 hp1 => ?_
    have s1 := same_upd (o := HO.lst [V.bl false, .bl false, .bl false, .bl false]) hp1
    have L1 : (upd H p1 (HO.lst [V.bl false, .bl false, .bl false, .bl false])) p1 = _ := upd_same
    generalize upd H p1 (HO.lst [V.bl false, .bl false, .bl false, .bl false]) = H1 at s1 L1 ⊢
    walk_at "rd"
    refine rd_isX ec (T.exk (List.mem_of_getElem? (i := 19) rfl)) ?_
    walk_at "rd"
    refine rd_isX ec (T.exk (List.mem_of_getElem? (i := 20) rfl)) ?_
    walk_at "rd"
    refine rd_isX ec (T.exk (List.mem_of_getElem? (i := 21) rfl)) ?_
    walk_at "rd"
    refine rd_new (hn := by show 3 ≤ sizeLine; decide) fun p2 hp2 => ?_
    have s2 := same_upd (o := HO.lst [V.bl false, .bl false, .bl false]) hp2
    have L2 : (upd H1 p2 (HO.lst [V.bl false, .bl false, .bl false])) p2 = _ := upd_same
    generalize upd H1 p2 (HO.lst [V.bl false, .bl false, .bl false]) = H2 at s2 L2 ⊢
    walk_at "rd"
    refine ⟨p1, p2, _, _, rfl, rfl, s2 _ _ L1, L2, by show 7 ≤ sizeLine; decide, fun p3 hp3 => ?_⟩
    have s3 := same_upd (o := HO.lst ([V.bl false, .bl false, .bl false, .bl false] ++ [V.bl false, .bl false, .bl false])) hp3
    have L3 : (upd H2 p3 (HO.lst ([V.bl false, .bl false, .bl false, .bl false] ++ [V.bl false, .bl false, .bl false]))) p3 = _ := upd_same
    generalize upd H2 p3 (HO.lst ([V.bl false, .bl false, .bl false, .bl false] ++ [V.bl false, .bl false, .bl false])) = H3 at s3 L3 ⊢
    walk_at "rd"
    refine rd_isX ec (T.exk (List.mem_of_getElem? (i := 22) rfl)) ?_
    walk_at "rd"
    refine rd_isX ec (T.exk (List.mem_of_getElem? (i := 23) rfl)) ?_
    walk_at "rd"
    refine rd_isX ec (T.exk (List.mem_of_getElem? (i := 24) rfl)) ?_
    walk_at "rd"
    refine rd_new (hn := by show 3 ≤ sizeLine; decide) fun p4 hp4 => ?_
    have s4 := same_upd (o := HO.lst [V.bl true, .bl false, .bl false]) hp4
    have L4 : (upd H3 p4 (HO.lst [V.bl true, .bl false, .bl false])) p4 = _ := upd_same
    generalize upd H3 p4 (HO.lst [V.bl true, .bl false, .bl false]) = H4 at s4 L4 ⊢
    walk_at "rd"
    refine ⟨p3, p4, _, _, rfl, rfl, s4 _ _ L3, L4, by show 10 ≤ sizeLine; decide, fun p5 hp5 => ?_⟩
    have s5 := same_upd (o := HO.lst (([V.bl false, .bl false, .bl false, .bl false] ++ [V.bl false, .bl false, .bl false]) ++ [V.bl true, .bl false, .bl false])) hp5
    have L5 : (upd H4 p5 (HO.lst (([V.bl false, .bl false, .bl false, .bl false] ++ [V.bl false, .bl false, .bl false]) ++ [V.bl true, .bl false, .bl false]))) p5 = _ := upd_same
    generalize upd H4 p5 (HO.lst (([V.bl false, .bl false, .bl false, .bl false] ++ [V.bl false, .bl false, .bl false]) ++ [V.bl true, .bl false, .bl false])) = H5 at s5 L5 ⊢
    walk_at "rd"
    refine rd_isX ec (T.exk (List.mem_of_getElem? (i := 25) rfl)) ?_
    walk_at "rd"
    refine rd_isX ec (T.exk (List.mem_of_getElem? (i := 26) rfl)) ?_
    walk_at "rd"
    refine rd_isX ec (T.exk (List.mem_of_getElem? (i := 27) rfl)) ?_
    walk_at "rd"
    refine rd_new (hn := by show 3 ≤ sizeLine; decide) fun p6 hp6 => ?_
    have s6 := same_upd (o := HO.lst [V.bl false, .bl false, .bl false]) hp6
    have L6 : (upd H5 p6 (HO.lst [V.bl false, .bl false, .bl false])) p6 = _ := upd_same
    generalize upd H5 p6 (HO.lst [V.bl false, .bl false, .bl false]) = H6 at s6 L6 ⊢
    walk_at "rd"
    refine ⟨p5, p6, _, _, rfl, rfl, s6 _ _ L5, L6, by show 13 ≤ sizeLine; decide, fun p7 hp7 => ?_⟩
    obtain ⟨bs, hbs⟩ : ∃ bs : List Bool, bs = [false, false, false, false, false, false, false, true, false, false, false, false, false] := ⟨_, rfl⟩
    have eb : ((([V.bl false, .bl false, .bl false, .bl false] ++ [V.bl false, .bl false, .bl false]) ++ [V.bl true, .bl false, .bl false]) ++ [V.bl false, .bl false, .bl false]) = bs.map V.bl := by rw [hbs]; rfl
    rw [eb]
    have s7 := same_upd (o := HO.lst (bs.map V.bl)) hp7
    have L7 : (upd H6 p7 (HO.lst (bs.map V.bl))) p7 = some (.lst (bs.map V.bl)) := upd_same
    have sA := ((((((s1.trans s2).trans s3).trans s4).trans s5).trans s6).trans s7)
    generalize upd H6 p7 (HO.lst (bs.map V.bl)) = H7 at *
    walk_at "rd"
    refine rd_isXT ec (T.exk (List.mem_of_getElem? (i := 28) rfl)) ?_
    walk_at "rd"
    refine rd_tyL L7 ?_
    walk_at "rd"
    refine ⟨p7, bs, rfl, rfl, SqL.of L7, ?_⟩
    rw [show (bs.countP fun y => decide (y = true)) = 1 by rw [hbs]; rfl]
    walk_at "rd"
    rw [decide_eq_true (show ((1 : Nat) : Int) = 1 from rfl)]
    walk_at "rd"
    refine rd_new (hn := by show 7 ≤ sizeLine; decide) fun w1 hw1 => ?_
    have t1 := same_upd (o := HO.lst [V.str (Str.ofString "number"), .str (Str.ofString "rule"), .str (Str.ofString "restless"), .str (Str.ofString "square"), .str (Str.ofString "level"), .str (Str.ofString "state"), .str (Str.ofString "box")]) hw1
    have W1 : (upd H7 w1 (HO.lst [V.str (Str.ofString "number"), .str (Str.ofString "rule"), .str (Str.ofString "restless"), .str (Str.ofString "square"), .str (Str.ofString "level"), .str (Str.ofString "state"), .str (Str.ofString "box")])) w1 = _ := upd_same
    have K1 := t1 _ _ L7
    generalize upd H7 w1 _ = J1 at *
    walk_at "rd"
    refine rd_new (hn := by show 6 ≤ sizeLine; decide) fun w2 hw2 => ?_
    have t2 := same_upd (o := HO.lst [V.str (Str.ofString "far"), .str (Str.ofString "many"), .str (Str.ofString "steps"), .str (Str.ofString "pattern"), .str (Str.ofString "name"), .str (Str.ofString "row")]) hw2
    have W2 : (upd J1 w2 (HO.lst [V.str (Str.ofString "far"), .str (Str.ofString "many"), .str (Str.ofString "steps"), .str (Str.ofString "pattern"), .str (Str.ofString "name"), .str (Str.ofString "row")])) w2 = _ := upd_same
    have K2 := t2 _ _ K1
    have W1' := t2 _ _ W1
    generalize upd J1 w2 _ = J2 at *
    walk_at "rd"
    refine ⟨w1, w2, _, _, rfl, rfl, W1', W2, by show 13 ≤ sizeLine; decide, fun w3 hw3 => ?_⟩
    have t3 := same_upd (o := HO.lst ([V.str (Str.ofString "number"), .str (Str.ofString "rule"), .str (Str.ofString "restless"), .str (Str.ofString "square"), .str (Str.ofString "level"), .str (Str.ofString "state"), .str (Str.ofString "box")] ++ [V.str (Str.ofString "far"), .str (Str.ofString "many"), .str (Str.ofString "steps"), .str (Str.ofString "pattern"), .str (Str.ofString "name"), .str (Str.ofString "row")])) hw3
    have W3 : (upd J2 w3 (HO.lst ([V.str (Str.ofString "number"), .str (Str.ofString "rule"), .str (Str.ofString "restless"), .str (Str.ofString "square"), .str (Str.ofString "level"), .str (Str.ofString "state"), .str (Str.ofString "box")] ++ [V.str (Str.ofString "far"), .str (Str.ofString "many"), .str (Str.ofString "steps"), .str (Str.ofString "pattern"), .str (Str.ofString "name"), .str (Str.ofString "row")]))) w3 = _ := upd_same
    have K3 := t3 _ _ K2
    have sB := ((sA.trans t1).trans t2).trans t3
    generalize upd J2 w3 _ = J3 at *
    walk_at "rd"
    refine rd_tyL K3 ?_
    walk_at "rd"
    refine ⟨p7, bs, rfl, rfl, SqL.of K3, by rw [hbs]; decide, ?_⟩
    rw [show bs.idxOf true = 7 by rw [hbs]; rfl]
    refine rd_ixL (SqL.of W3) (atI_nat (j := 7) rfl) ?_
    exact k _ sB
  · have ec := (T.exf (List.mem_of_getElem? (i := 2) rfl)).ec
    refine ⟨_, (pss_cons (ps_set (i := 1) sc_w_word.nd rfl (Or.inl rfl) (pe_lst (pa_cons (pe_callB (call_isP K rfl List.mem_cons_self hz hf) (by rfl) (T.free 1) (by decide +kernel) (pa_cons (pv 0) (pa_cons (pe_grefK K rfl (T.glo 7) rfl) pa_nil))) (pa_cons (pe_callB (call_isP K rfl List.mem_cons_self hz hf) (by rfl) (T.free 1) (by decide +kernel) (pa_cons (pv 0) (pa_cons (pe_grefK K rfl (T.glo 67) rfl) pa_nil))) (pa_cons (pe_callB (call_isP K rfl List.mem_cons_self hz hf) (by rfl) (T.free 1) (by decide +kernel) (pa_cons (pv 0) (pa_cons (pe_grefK K rfl (T.glo 68) rfl) pa_nil))) (pa_cons (pe_callB (call_isP K rfl List.mem_cons_self hz hf) (by rfl) (T.free 1) (by decide +kernel) (pa_cons (pv 0) (pa_cons (pe_grefK K rfl (T.glo 69) rfl) pa_nil))) pa_nil))))))
      (pss_cons (ps_set (i := 1) sc_w_word.nd rfl (Or.inl rfl) (pe_op op_cat (pv 1) (pe_lst (pa_cons (pe_callB (call_isP K rfl List.mem_cons_self hz hf) (by rfl) (T.free 1) (by decide +kernel) (pa_cons (pv 0) (pa_cons (pe_grefK K rfl (T.glo 70) rfl) pa_nil))) (pa_cons (pe_callB (call_isP K rfl List.mem_cons_self hz hf) (by rfl) (T.free 1) (by decide +kernel) (pa_cons (pv 0) (pa_cons (pe_grefK K rfl (T.glo 71) rfl) pa_nil))) (pa_cons (pe_callB (call_isP K rfl List.mem_cons_self hz hf) (by rfl) (T.free 1) (by decide +kernel) (pa_cons (pv 0) (pa_cons (pe_grefK K rfl (T.glo 72) rfl) pa_nil))) pa_nil))))))
      (pss_cons (ps_set (i := 1) sc_w_word.nd rfl (Or.inl rfl) (pe_op op_cat (pv 1) (pe_lst (pa_cons (pe_callB (call_isP K rfl List.mem_cons_self hz hf) (by rfl) (T.free 1) (by decide +kernel) (pa_cons (pv 0) (pa_cons (pe_grefK K rfl (T.glo 39) rfl) pa_nil))) (pa_cons (pe_callB (call_isP K rfl List.mem_cons_self hz hf) (by rfl) (T.free 1) (by decide +kernel) (pa_cons (pv 0) (pa_cons (pe_grefK K rfl (T.glo 73) rfl) pa_nil))) (pa_cons (pe_callB (call_isP K rfl List.mem_cons_self hz hf) (by rfl) (T.free 1) (by decide +kernel) (pa_cons (pv 0) (pa_cons (pe_grefK K rfl (T.glo 74) rfl) pa_nil))) pa_nil))))))
      (pss_cons (ps_set (i := 1) sc_w_word.nd rfl (Or.inl rfl) (pe_op op_cat (pv 1) (pe_lst (pa_cons (pe_callB (call_isP K rfl List.mem_cons_self hz hf) (by rfl) (T.free 1) (by decide +kernel) (pa_cons (pv 0) (pa_cons (pe_grefK K rfl (T.glo 41) rfl) pa_nil))) (pa_cons (pe_callB (call_isP K rfl List.mem_cons_self hz hf) (by rfl) (T.free 1) (by decide +kernel) (pa_cons (pv 0) (pa_cons (pe_grefK K rfl (T.glo 75) rfl) pa_nil))) (pa_cons (pe_callB (call_isP K rfl List.mem_cons_self hz hf) (by rfl) (T.free 1) (by decide +kernel) (pa_cons (pv 0) (pa_cons (pe_grefK K rfl (T.glo 76) rfl) pa_nil))) pa_nil))))))
      (pss_cons (ps_if (PW.pt (pw_or (pt_not (pt_val (pe_callB (call_isP K rfl List.mem_cons_self hz hf) (by rfl) (T.free 1) (by decide +kernel) (pa_cons (pv 0) (pa_cons (pe_bltn (v := V.ty "ValueError") rfl (T.free 77) (by decide +kernel) rfl) pa_nil))))) (pw_or1 (pt_cmpR op_ne (pe_bm PySem.F.plainAttrs_list PySem.F.slot_list_count PySem.F.type_list_count (mt_bcount hu) (pv 1) (pa_cons pe_bl pa_nil)) pe_int (nomark _))))) (pss_one (ps_ret pe_str)) pss_nil)
      (pss_cons (ps_set (i := 2) sc_w_word.nd rfl (Or.inl rfl) (pe_lst (pa_cons pe_str (pa_cons pe_str (pa_cons pe_str (pa_cons pe_str (pa_cons pe_str (pa_cons pe_str (pa_cons pe_str pa_nil)))))))))
      (pss_cons (ps_set (i := 2) sc_w_word.nd rfl (Or.inl rfl) (pe_op op_cat (pv 2) (pe_lst (pa_cons pe_str (pa_cons pe_str (pa_cons pe_str (pa_cons pe_str (pa_cons pe_str (pa_cons pe_str pa_nil)))))))))
      (pss_one (ps_ret (pe_ix (ix_listK K rfl) (pv 2) (pe_bm PySem.F.plainAttrs_list PySem.F.slot_list_index PySem.F.type_list_index (mt_bindex hu) (pv 1) (pa_cons pe_bl pa_nil)) (fun _ _ => rfl))))))))))), ?_⟩
    walk_at "rd"
    refine rd_isX ec (T.exk (List.mem_of_getElem? (i := 30) rfl)) ?_
    walk_at "rd"
    refine rd_isX ec (T.exk (List.mem_of_getElem? (i := 31) rfl)) ?_
    walk_at "rd"
    refine rd_isX ec (T.exk (List.mem_of_getElem? (i := 32) rfl)) ?_
    walk_at "rd"
    refine rd_isX ec (T.exk (List.mem_of_getElem? (i := 33) rfl)) ?_
    walk_at "rd"
    refine rd_new (hn := by show 4 ≤ sizeLine; decide) fun p1 hp1 => ?_
    have s1 := same_upd (o := HO.lst [V.bl false, .bl false, .bl false, .bl false]) hp1
    have L1 : (upd H p1 (HO.lst [V.bl false, .bl false, .bl false, .bl false])) p1 = _ := upd_same
    generalize upd H p1 (HO.lst [V.bl false, .bl false, .bl false, .bl false]) = H1 at s1 L1 ⊢
    walk_at "rd"
    refine rd_isX ec (T.exk (List.mem_of_getElem? (i := 34) rfl)) ?_
    walk_at "rd"
    refine rd_isX ec (T.exk (List.mem_of_getElem? (i := 35) rfl)) ?_
    walk_at "rd"
    refine rd_isX ec (T.exk (List.mem_of_getElem? (i := 36) rfl)) ?_
    walk_at "rd"
    refine rd_new (hn := by show 3 ≤ sizeLine; decide) fun p2 hp2 => ?_
    have s2 := same_upd (o := HO.lst [V.bl false, .bl false, .bl false]) hp2
    have L2 : (upd H1 p2 (HO.lst [V.bl false, .bl false, .bl false])) p2 = _ := upd_same
    generalize upd H1 p2 (HO.lst [V.bl false, .bl false, .bl false]) = H2 at s2 L2 ⊢
    walk_at "rd"
    refine ⟨p1, p2, _, _, rfl, rfl, s2 _ _ L1, L2, by show 7 ≤ sizeLine; decide, fun p3 hp3 => ?_⟩
    have s3 := same_upd (o := HO.lst ([V.bl false, .bl false, .bl false, .bl false] ++ [V.bl false, .bl false, .bl false])) hp3
    have L3 : (upd H2 p3 (HO.lst ([V.bl false, .bl false, .bl false, .bl false] ++ [V.bl false, .bl false, .bl false]))) p3 = _ := upd_same
    generalize upd H2 p3 (HO.lst ([V.bl false, .bl false, .bl false, .bl false] ++ [V.bl false, .bl false, .bl false])) = H3 at s3 L3 ⊢
    walk_at "rd"
    refine rd_isX ec (T.exk (List.mem_of_getElem? (i := 37) rfl)) ?_
    walk_at "rd"
    refine rd_isX ec (T.exk (List.mem_of_getElem? (i := 38) rfl)) ?_
    walk_at "rd"
    refine rd_isX ec (T.exk (List.mem_of_getElem? (i := 39) rfl)) ?_
    walk_at "rd"
    refine rd_new (hn := by show 3 ≤ sizeLine; decide) fun p4 hp4 => ?_
    have s4 := same_upd (o := HO.lst [V.bl false, .bl false, .bl false]) hp4
    have L4 : (upd H3 p4 (HO.lst [V.bl false, .bl false, .bl false])) p4 = _ := upd_same
    generalize upd H3 p4 (HO.lst [V.bl false, .bl false, .bl false]) = H4 at s4 L4 ⊢
    walk_at "rd"
    refine ⟨p3, p4, _, _, rfl, rfl, s4 _ _ L3, L4, by show 10 ≤ sizeLine; decide, fun p5 hp5 => ?_⟩
    have s5 := same_upd (o := HO.lst (([V.bl false, .bl false, .bl false, .bl false] ++ [V.bl false, .bl false, .bl false]) ++ [V.bl false, .bl false, .bl false])) hp5
    have L5 : (upd H4 p5 (HO.lst (([V.bl false, .bl false, .bl false, .bl false] ++ [V.bl false, .bl false, .bl false]) ++ [V.bl false, .bl false, .bl false]))) p5 = _ := upd_same
    generalize upd H4 p5 (HO.lst (([V.bl false, .bl false, .bl false, .bl false] ++ [V.bl false, .bl false, .bl false]) ++ [V.bl false, .bl false, .bl false])) = H5 at s5 L5 ⊢
    walk_at "rd"
    refine rd_isX ec (T.exk (List.mem_of_getElem? (i := 40) rfl)) ?_
    walk_at "rd"
    refine rd_isX ec (T.exk (List.mem_of_getElem? (i := 41) rfl)) ?_
    walk_at "rd"
    refine rd_isX ec (T.exk (List.mem_of_getElem? (i := 42) rfl)) ?_
    walk_at "rd"
    refine rd_new (hn := by show 3 ≤ sizeLine; decide) fun p6 hp6 => ?_
    have s6 := same_upd (o := HO.lst [V.bl true, .bl false, .bl false]) hp6
    have L6 : (upd H5 p6 (HO.lst [V.bl true, .bl false, .bl false])) p6 = _ := upd_same
    generalize upd H5 p6 (HO.lst [V.bl true, .bl false, .bl false]) = H6 at s6 L6 ⊢
    walk_at "rd"
    refine ⟨p5, p6, _, _, rfl, rfl, s6 _ _ L5, L6, by show 13 ≤ sizeLine; decide, fun p7 hp7 => ?_⟩
    obtain ⟨bs, hbs⟩ : ∃ bs : List Bool, bs = [false, false, false, false, false, false, false, false, false, false, true, false, false] := ⟨_, rfl⟩
    have eb : ((([V.bl false, .bl false, .bl false, .bl false] ++ [V.bl false, .bl false, .bl false]) ++ [V.bl false, .bl false, .bl false]) ++ [V.bl true, .bl false, .bl false]) = bs.map V.bl := by rw [hbs]; rfl
    rw [eb]
    have s7 := same_upd (o := HO.lst (bs.map V.bl)) hp7
    have L7 : (upd H6 p7 (HO.lst (bs.map V.bl))) p7 = some (.lst (bs.map V.bl)) := upd_same
    have sA := ((((((s1.trans s2).trans s3).trans s4).trans s5).trans s6).trans s7)
    generalize upd H6 p7 (HO.lst (bs.map V.bl)) = H7 at *
    walk_at "rd"
    refine rd_isXT ec (T.exk (List.mem_of_getElem? (i := 43) rfl)) ?_
    walk_at "rd"
    refine rd_tyL L7 ?_
    walk_at "rd"
    refine ⟨p7, bs, rfl, rfl, SqL.of L7, ?_⟩
    rw [show (bs.countP fun y => decide (y = true)) = 1 by rw [hbs]; rfl]
    walk_at "rd"
    rw [decide_eq_true (show ((1 : Nat) : Int) = 1 from rfl)]
    walk_at "rd"
    refine rd_new (hn := by show 7 ≤ sizeLine; decide) fun w1 hw1 => ?_
    have t1 := same_upd (o := HO.lst [V.str (Str.ofString "number"), .str (Str.ofString "rule"), .str (Str.ofString "restless"), .str (Str.ofString "square"), .str (Str.ofString "level"), .str (Str.ofString "state"), .str (Str.ofString "box")]) hw1
    have W1 : (upd H7 w1 (HO.lst [V.str (Str.ofString "number"), .str (Str.ofString "rule"), .str (Str.ofString "restless"), .str (Str.ofString "square"), .str (Str.ofString "level"), .str (Str.ofString "state"), .str (Str.ofString "box")])) w1 = _ := upd_same
    have K1 := t1 _ _ L7
    generalize upd H7 w1 _ = J1 at *
    walk_at "rd"
    refine rd_new (hn := by show 6 ≤ sizeLine; decide) fun w2 hw2 => ?_
    have t2 := same_upd (o := HO.lst [V.str (Str.ofString "far"), .str (Str.ofString "many"), .str (Str.ofString "steps"), .str (Str.ofString "pattern"), .str (Str.ofString "name"), .str (Str.ofString "row")]) hw2
    have W2 : (upd J1 w2 (HO.lst [V.str (Str.ofString "far"), .str (Str.ofString "many"), .str (Str.ofString "steps"), .str (Str.ofString "pattern"), .str (Str.ofString "name"), .str (Str.ofString "row")])) w2 = _ := upd_same
    have K2 := t2 _ _ K1
    have W1' := t2 _ _ W1
    generalize upd J1 w2 _ = J2 at *
    walk_at "rd"
    refine ⟨w1, w2, _, _, rfl, rfl, W1', W2, by show 13 ≤ sizeLine; decide, fun w3 hw3 => ?_⟩
    have t3 := same_upd (o := HO.lst ([V.str (Str.ofString "number"), .str (Str.ofString "rule"), .str (Str.ofString "restless"), .str (Str.ofString "square"), .str (Str.ofString "level"), .str (Str.ofString "state"), .str (Str.ofString "box")] ++ [V.str (Str.ofString "far"), .str (Str.ofString "many"), .str (Str.ofString "steps"), .str (Str.ofString "pattern"), .str (Str.ofString "name"), .str (Str.ofString "row")])) hw3
    have W3 : (upd J2 w3 (HO.lst ([V.str (Str.ofString "number"), .str (Str.ofString "rule"), .str (Str.ofString "restless"), .str (Str.ofString "square"), .str (Str.ofString "level"), .str (Str.ofString "state"), .str (Str.ofString "box")] ++ [V.str (Str.ofString "far"), .str (Str.ofString "many"), .str (Str.ofString "steps"), .str (Str.ofString "pattern"), .str (Str.ofString "name"), .str (Str.ofString "row")]))) w3 = _ := upd_same
    have K3 := t3 _ _ K2
    have sB := ((sA.trans t1).trans t2).trans t3
    generalize upd J2 w3 _ = J3 at *
    walk_at "rd"
    refine rd_tyL K3 ?_
    walk_at "rd"
    refine ⟨p7, bs, rfl, rfl, SqL.of K3, by rw [hbs]; decide, ?_⟩
    rw [show bs.idxOf true = 10 by rw [hbs]; rfl]
    refine rd_ixL (SqL.of W3) (atI_nat (j := 10) rfl) ?_
    exact k _ sB
end
end JF

/-! ### law k84: patterns and runs asked for, refused or read -/
namespace JF
open PySem PySem.Spec PyProof.Rows L2 NdefX LamX
theorem pf_words : wordsX[0]? = some (Str.ofString "TooFar", Str.ofString "far") ∧ wordsX[1]? = some (Str.ofString "NoPattern", Str.ofString "pattern") := ⟨rfl, rfl⟩
section
variable {P : Program} {w : World} {K : PySem.W.Frag} {mg : Str → Option Value} {base : Heap}
def sp_fieldE (K : PySem.W.Frag) : Sp := fun vs H Q _ => ∃ (a : GA) (rows : List (Int × Addr)) (q : List Sq) (x : V), vs = [.ref a.g, x] ∧ GAt (CG K) H a rows q ∧ TabsN (tabsN K) H ∧ ((NoTxE H x ∧ ∀ H' u, Same H H' → H' u = some (.tup [.str (Str.ofString "pattern"), .non]) → Q (.ref u) H') ∨ ∃ L, x = .str (tx L) ∧ L.length ≤ 400 ∧ q.length + 30000 < 15000000 ∧
  (patD L = none → ∀ H' rows' q' u, FStep (CG K) H a rows q H' rows' q' → TabsN (tabsN K) H' → q'.length ≤ q.length + 50 → H' u = some (.tup [.str (Str.ofString "pattern"), .non]) → Q (.ref u) H') ∧
  ∀ left top rs, patD L = some (left, top, rs) → ∃ N, RowN (strips left left top rs) N ∧ q.length + (strips left left top rs).length * (8820 * N + 6000) + 8820 * N + 30000 < 15000000 ∧
    ∀ H' rows' q' u, FStep (CG K) H a rows q H' rows' q' → TabsN (tabsN K) H' → q'.length ≤ q.length + 50 + (strips left left top rs).length * (8820 * N + 6000) →
    (((∃ s ∈ strips left left top rs, ¬ StripIn s) ∧ H' u = some (.tup [.str (Str.ofString "far"), .non])) ∨ ((∀ s ∈ strips left left top rs, StripIn s) ∧ ∃ (m : Nat) (T : Sq), H' u = some (.tup [.str (Str.ofString ""), .int (m : Int)]) ∧ q'[m]? = some T ∧ 1 ≤ T.level ∧ T.level ≤ 41 ∧ T.Least ∧ ∀ u v, T.val u v = layS (fun _ _ => 0) (strips left left top rs) u v)) → Q (.ref u) H')
theorem ok_fieldE (T : Env fa fn K mg) (TB : ∀ p ∈ tfs, TabB base mg (He.codeOf K p) (He.tabOf K (He.codeOf K p))) : Good P w K mg base CX0 64 ("_law_field", none) ["_law_grove", "_law_thing"] (sp_fieldE K) := by
  have GX_read_pattern := okX_patE (P := P) (w := w) (base := base) T TB
  have GE_w_word := okE_wordX (P := P) (w := w) (base := base) T
  refine good_mk T 56 (d := d_w_field) (N := ["_law_grove", "_law_thing", "_law_found", "_law_e"]) (ps := ["_law_grove", "_law_thing"]) rfl rfl sc_w_field (fun _ _ _ _ _ _ us hl => match us, hl with | [_, _], _ => rfl) (fun vs H Q E h => ?_) (fun f cdv A outer σ0 H vs Q E hr h => ?_)
  · obtain ⟨a, rows, q, x, rfl, _⟩ := h; rfl
  · obtain ⟨a, rows, q, x, rfl, G, tabs, h⟩ := h
    refine ⟨_, (pss_cons (ps_tryAC K rfl (i := 3) rfl rfl sc_w_field.nd rfl rfl ⟨rfl, by decide, .inl (T.glo 78)⟩ takes0C (fun W pn xe tk pw => (pss_one (ps_set (i := 2) sc_w_field.nd rfl (Or.inl rfl) (pe_cgC2 K rfl tk GX_read_pattern (hr.mono (by decide)) (T.glo 79) (pa_cons (pv 0) (pa_cons (pv 1) pa_nil))))))
      (fun a oe cls d pn hz hf => (pss_one (ps_ret (pe_tup (pa_cons (pe_callE K rfl GE_w_word (roomH_suite hr (by decide)) hf List.mem_cons_self hz (T.glo 80) (pa_cons (pv 3) pa_nil)) (pa_cons pe_non pa_nil)))))))
      (pss_one (ps_ret (pe_tup (pa_cons pe_str (pa_cons (pv 2) pa_nil)))))), ?_⟩
    walk_at "rd"
    refine rd_tryA ?_
    walk_at "rd"
    refine rd_callS ?_
    walk_at "rd"
    rcases h with ⟨hx, kx⟩ | ⟨L, rfl, hL, hq0, hno, hsome⟩
    · refine ⟨a, rows, q, x, rfl, G, tabs, .inl ⟨hx, ?_⟩⟩
      refine wAs_yes (T.exm (List.mem_of_getElem? (i := 44) rfl)) fun e he => ?_
      walk_at "rd"
      refine rd_callE ?_
      walk_at "rd"
      refine ⟨Str.ofString "NoPattern", Str.ofString "pattern", List.mem_of_getElem? pf_words.2, rfl, rfl, rfl, fun H2 s2 => ?_⟩
      walk_at "rd"
      refine rd_new (hn := by show 2 ≤ sizeLine; decide) fun u hu => ?_
      exact kx _ u (s2.trans (same_upd hu)) upd_same
    · refine ⟨a, rows, q, _, rfl, G, tabs, .inr ⟨L, rfl, hL, hq0, fun hn H1 r1 q1 F1 t1 l1 => ?_, fun left top rs hs => ?_⟩⟩
      · refine wAs_yes (T.exm (List.mem_of_getElem? (i := 44) rfl)) fun e he => ?_
        walk_at "rd"
        refine rd_callE ?_
        walk_at "rd"
        refine ⟨Str.ofString "NoPattern", Str.ofString "pattern", List.mem_of_getElem? pf_words.2, rfl, rfl, rfl, fun H2 s2 => ?_⟩
        walk_at "rd"
        refine rd_new (hn := by show 2 ≤ sizeLine; decide) fun u hu => ?_
        have s3 := s2.trans (same_upd (o := HO.tup [V.str (Str.ofString "pattern"), V.non]) hu)
        exact hno hn _ r1 q1 u (F1.trans (FStep.ext (F1.gat.same s3) (ExtN.of s3) fun b e => none_ofW2 s3 e)) (tabs_same t1 s3) l1 upd_same
      · obtain ⟨N, hN, hq, k⟩ := hsome left top rs hs
        refine ⟨N, hN, hq, fun hb H1 r1 q1 F1 t1 l1 => ?_, fun hin H1 r1 q1 m T1 F1 t1 l1 e1 g1 g2 g3 gv => ?_⟩
        · refine wAs_yes (T.exm (List.mem_of_getElem? (i := 29) rfl)) fun e he => ?_
          walk_at "rd"
          refine rd_callE ?_
          walk_at "rd"
          refine ⟨Str.ofString "TooFar", Str.ofString "far", List.mem_of_getElem? pf_words.1, rfl, rfl, rfl, fun H2 s2 => ?_⟩
          walk_at "rd"
          refine rd_new (hn := by show 2 ≤ sizeLine; decide) fun u hu => ?_
          have s3 := s2.trans (same_upd (o := HO.tup [V.str (Str.ofString "far"), V.non]) hu)
          exact k _ r1 q1 u (F1.trans (FStep.ext (F1.gat.same s3) (ExtN.of s3) fun b e => none_ofW2 s3 e)) (tabs_same t1 s3) l1 (.inl ⟨hb, upd_same⟩)
        · walk_at "rd"
          refine rd_new (hn := by show 2 ≤ sizeLine; decide) fun u hu => ?_
          have s3 := same_upd (o := HO.tup [V.str (Str.ofString ""), V.int (m : Int)]) hu
          exact k _ r1 q1 u (F1.trans (FStep.ext (F1.gat.same s3) (ExtN.of s3) fun b e => none_ofW2 s3 e)) (tabs_same t1 s3) l1 (.inr ⟨hin, m, T1, upd_same, e1, g1, g2, g3, gv⟩)
end
end JF

/-! ### law k84: the law's own reader -/
namespace JF
open PySem PySem.Spec PyProof.Rows L2
theorem spl_cut {c : Nat} : ∀ {L acc A B : List Nat}, cutC c L = some (A, B) → TL.spl [c] 0 acc L = (acc ++ A) :: TL.spl [c] 0 [] B
  | [], _, _, _, h => by cases h
  | d :: L, acc, A, B, h => by
    unfold cutC at h
    split at h
    · next z =>
      cases h
      subst z
      have hh : TL.pre [d] (d :: L) = true := TL.pre_self [d] L
      rw [TL.spl_hit hh, List.append_nil]
      rfl
    · next z =>
      cases e : cutC c L with
      | none => rw [e] at h; cases h
      | some p =>
        rw [e] at h
        obtain ⟨A', B'⟩ := p
        cases h
        rw [TL.spl_miss (TL.pre_of_head [] L z), spl_cut e, List.append_assoc]
        rfl
theorem spl_nocut {c : Nat} : ∀ {L acc : List Nat}, cutC c L = none → TL.spl [c] 0 acc L = [acc ++ L]
  | [], acc, _ => by rw [TL.spl_nil, List.append_nil]
  | d :: L, acc, h => by
    unfold cutC at h
    split at h
    · cases h
    · next z =>
      cases e : cutC c L with
      | some p => rw [e] at h; cases h
      | none =>
        rw [TL.spl_miss (TL.pre_of_head [] L z), spl_nocut e, List.append_assoc]
        rfl
theorem split_c (L : List Nat) {c : Nat} (hc : c < 256) : Txt.split (tx L) (tx [c]) = (TL.spl [c] 0 [] L).map tx := by
  apply TL.map_tl_inj
  rw [TL.split_spl (tx L) (tx [c]) (by show [c] ≠ []; simp) (TL.kind_ok (by show ([c].toArray.all (· < 256)) = true; simp [hc]))]
  rw [List.map_map]
  exact (List.map_id _).symm
theorem cutC_len {c : Nat} {L A B : List Nat} (h : cutC c L = some (A, B)) : A.length ≤ L.length ∧ B.length ≤ L.length := by
  have e := (cutC_some h).1
  rw [e, List.length_append, List.length_cons]
  omega
theorem cutC_mem {c : Nat} : ∀ {L A B : List Nat}, cutC c L = some (A, B) → c ∈ L := fun {L A B} h => by
  rw [(cutC_some h).1]
  exact List.mem_append_right _ List.mem_cons_self
/-- all signs of a text that tells runs -/
theorem runsD_signs : ∀ {L acc : List Nat} {rs : List Rn}, runsD acc L = some rs → ∀ c ∈ L, (48 ≤ c ∧ c ≤ 57) ∨ c ∈ signs9
  | [], _, _, _ => fun c m => by cases m
  | d :: L, acc, rs, h => fun c m => by
    rw [runsD_cons] at h
    split at h
    · next z =>
      rcases List.mem_cons.mp m with m | m
      · rw [m]; exact .inl z
      · exact runsD_signs h c m
    · split at h
      · next z2 =>
        rcases List.mem_cons.mp m with m | m
        · rw [m]; exact .inr z2
        · cases ha : amtD acc with
          | none => rw [ha] at h; cases h
          | some n =>
            rw [ha] at h
            cases hr : runsD [] L with
            | none => rw [hr] at h; cases h
            | some r0 => exact runsD_signs hr c m
      · cases h
/-- figures ahead -/
theorem runsD_figs : ∀ (A acc B : List Nat), (∀ c ∈ A, 48 ≤ c ∧ c ≤ 57) → runsD acc (A ++ B) = runsD (acc ++ A) B
  | [], acc, B, _ => by rw [List.append_nil]; rfl
  | c :: A, acc, B, h => by
    rw [List.cons_append, runsD_cons, if_pos (h c List.mem_cons_self), runsD_figs A (acc ++ [c]) B fun d m => h d (List.mem_cons_of_mem _ m), List.append_assoc]
    rfl
/-- figures of a number -/
def figD (L : List Nat) (k : Nat) : Prop := L ≠ [] ∧ L.length ≤ k ∧ L.head? ≠ some 48 ∧ ∀ c ∈ L, 48 ≤ c ∧ c ≤ 57
theorem unMinus_figs {L : List Nat} (h : ∀ c ∈ L, 48 ≤ c ∧ c ≤ 57) : unMinus L = L := by
  cases L with
  | nil => rfl
  | cons d l =>
    have hd := h d List.mem_cons_self
    unfold unMinus
    split
    · next q => cases q; omega
    · rfl
theorem endD_nought : endD [48] ∧ valW [48] = 0 := by
  refine ⟨⟨by decide, by decide, by decide, ?_, fun _ => rfl⟩, by decide⟩
  decide
theorem endD_minus {l : List Nat} : endD (45 :: l) ↔ figD l 13 := by
  have e : figsOf (45 :: l) = l := rfl
  have eu : unMinus (45 :: l) = unMinus l := rfl
  unfold endD okW figD
  rw [e, eu]
  constructor
  · rintro ⟨h1, h2, h3, h4, h5⟩
    rw [unMinus_figs h4] at h1
    exact ⟨h2, h1, (fun q => by have := h5 q; cases this), h4⟩
  · rintro ⟨h1, h2, h3, h4⟩
    rw [unMinus_figs h4]
    exact ⟨h2, h1, by omega, h4, fun q => absurd q h3⟩
theorem endD_plain {L : List Nat} (h : L.head? ≠ some 45) (h0 : L ≠ [48]) : endD L ↔ figD L 13 := by
  have e : figsOf L = L := if_neg h
  unfold endD okW figD
  rw [e]
  constructor
  · rintro ⟨h1, h2, h3, h4, h5⟩
    rw [unMinus_figs h4] at h1
    exact ⟨h2, h1, (fun q => h0 (h5 q)), h4⟩
  · rintro ⟨h1, h2, h3, h4⟩
    rw [unMinus_figs h4]
    exact ⟨h2, h1, by omega, h4, fun q => absurd q h3⟩
theorem valW_minus (l : List Nat) : valW (45 :: l) = -((dig l : Nat) : Int) := rfl
theorem valW_plain {L : List Nat} (h : L.head? ≠ some 45) : valW L = ((dig L : Nat) : Int) := by
  unfold valW figsOf
  rw [if_neg h, if_neg h]
theorem mc_intS : MonC fun xs H Q => ∃ a n, xs = [V.str a] ∧ intText? a = some n ∧ a.length ≤ 640 ∧ Q (V.int n) H := fun xs H Q Q' h ⟨a, n, e1, e2, e3, q⟩ => ⟨a, n, e1, e2, e3, h _ _ q⟩
theorem mr_inS : MonR fun x y H Q => ∃ (c : Nat) (z : Str), x = V.str ⟨#[c]⟩ ∧ y = .str z ∧ Q (.bl (decide (c ∈ z.cps.toList))) H := fun x y H Q Q' h ⟨c, z, a, b, q⟩ => ⟨c, z, a, b, h _ _ q⟩
theorem mr_ninS : MonR fun x y H Q => ∃ (c : Nat) (z : Str), x = V.str ⟨#[c]⟩ ∧ y = .str z ∧ Q (.bl (!decide (c ∈ z.cps.toList))) H := fun x y H Q Q' h ⟨c, z, a, b, q⟩ => ⟨c, z, a, b, h _ _ q⟩
section
variable {P : Program} {w : World} {K : PySem.W.Frag} {mg : Str → Option Value} {base : Heap}
def sp_figures : Sp := fun vs H Q _ => ∃ (L : List Nat) (k : Nat), vs = [.str (tx L), .int (k : Int)] ∧ L.length ≤ 1000 ∧ ∀ b : Bool, (b = true ↔ figD L k) → Q (.bl b) H
theorem mp_figures : MonP sp_figures := fun vs H Q Q' E h ⟨L, k, x1, x2, q⟩ => ⟨L, k, x1, x2, fun b e => h _ _ (q b e)⟩
theorem ok_figures (T : Env fa fn K mg) : Good P w K mg base CX0 1 ("_law_figures", none) ["_law_text", "_law_most"] sp_figures := by
  refine good_mk T 48 (d := d_w_figures) (N := ["_law_text", "_law_most", "_law_sign"]) (ps := ["_law_text", "_law_most"]) rfl rfl sc_w_figures (fun _ _ _ _ _ _ us hl => match us, hl with | [_, _], _ => rfl) (fun vs H Q E h => ?_) (fun f cdv A outer s H vs Q E hr h => ?_)
  · obtain ⟨L, k, rfl, _⟩ := h; rfl
  · obtain ⟨L, k, rfl, hl, q⟩ := h
    have hsz := sizeBig
    refine ⟨_, (pss_cons (ps_if (PW.pt (pw_or (pt_cmpR op_eq (pv 0) pe_str (nomark _)) (pw_or (pt_cmpR op_gt (pe_callB call_len_str (by rfl) (T.free 4) (by decide +kernel) (pa_cons (pv 0) pa_nil)) (pv 1) (nomark _)) (pw_or1 (pt_cmpR op_eq (pe_ix ix_str (pv 0) pe_int (fun _ _ => rfl)) pe_str (nomark _)))))) (pss_one (ps_ret pe_bl)) pss_nil)
      (pss_cons (ps_for PassesOwn.never rfl (pi_str (pv 0)) (pg_name (i := 2) sc_w_figures.nd rfl (Or.inl rfl)) (pss_one (ps_if (pt_cmpR op_notIn_sign (pv 2) pe_str rfl) (pss_one (ps_ret pe_bl)) pss_nil)))
      (pss_one (ps_ret pe_bl)))), ?_⟩
    walk_at "rd"
    rw [tx_nil, tx_eq]
    refine ite_d (fun z => ?_) (fun z => ?_)
    · walk_at "rd"
      exact q false ⟨(fun e => by cases e), fun e => absurd z e.1⟩
    obtain ⟨c, l, ec⟩ : ∃ c l, L = c :: l := by
      cases L with
      | nil => exact absurd rfl z
      | cons c l => exact ⟨c, l, rfl⟩
    walk_at "rd"
    refine ⟨_, rfl, len_ok (by omega), ?_⟩
    walk_at "rd"
    rw [tx_len]
    refine ite_d (fun z2 => ?_) (fun z2 => ?_)
    · walk_at "rd"
      exact q false ⟨(fun e => by cases e), fun e => absurd e.2.1 (by omega)⟩
    walk_at "rd"
    refine ⟨_, _, c, rfl, rfl, len_ok (by omega), by show atI L 0 = some c; rw [ec]; exact atI_nat (j := 0) rfl, ?_⟩
    walk_at "rd"
    rw [tx_nought]
    have e1 : decide ((⟨#[c]⟩ : Str) = tx [48]) = decide (c = 48) := by
      show decide (tx [c] = tx [48]) = _
      rw [tx_eq]
      exact decide_eq_decide.mpr (by simp)
    rw [e1]
    refine ite_d (fun z3 => ?_) (fun z3 => ?_)
    · walk_at "rd"
      exact q false ⟨(fun e => by cases e), fun e => absurd (by rw [ec, z3]; rfl) e.2.2.1⟩
    walk_at "rd"
    refine ⟨_, rfl, ?_⟩
    refine for_it (walk_str (z := tx L)) (fun i σ H' => H' = H ∧ (∀ c ∈ L.take i, 48 ≤ c ∧ c ≤ 57) ∧ ∃ x2 : Option V, σ = [some (.str (tx L)), some (.int (k : Int)), x2]) ⟨rfl, fun c h => by simp at h, none, rfl⟩ (fun _ _ _ _ _ => trivial) ?_ ?_
    · rintro i v σ Ha Hb hi ⟨rfl, hd, x2, rfl⟩ ⟨rfl, c, hc, rfl⟩
      have hc' : L[i]? = some c := by simpa [tx] using hc
      walk_at "rd"
      refine ⟨c, _, rfl, rfl, ?_⟩
      rw [in_figs]
      walk_at "rd"
      refine ite_nd (fun z3 => ?_) (fun z3 => ?_)
      · walk_at "rd"
        exact q false ⟨(fun e => by cases e), fun e => absurd (e.2.2.2 c (List.mem_of_getElem? hc')) z3⟩
      · walk_at "rd"
        refine ⟨rfl, fun d hd' => ?_, _, rfl⟩
        rw [List.take_succ, hc'] at hd'
        rcases List.mem_append.mp hd' with m | m
        · exact hd d m
        · have e : d = c := by simpa using m
          rw [e]; exact z3
    · rintro σ H' ⟨rfl, hd, x2, rfl⟩
      have e : L.take (tx L).cps.size = L := List.take_of_length_le (by simp [tx])
      rw [e] at hd
      walk_at "rd"
      exact q true ⟨fun _ => ⟨z, by omega, (by rw [ec]; intro q; exact z3 (Option.some.inj q)), hd⟩, fun _ => rfl⟩
/-- a place told, or None -/
def NumIs (L : List Nat) (x : V) : Prop := (endD L ∧ x = .int (valW L)) ∨ (¬ endD L ∧ x = .non)
def sp_numberD : Sp := fun vs H Q _ => ∃ L : List Nat, vs = [.str (tx L)] ∧ L.length ≤ 900 ∧ ∀ x, NumIs L x → Q x H
theorem mp_numberD : MonP sp_numberD := fun vs H Q Q' E h ⟨L, x1, x2, a⟩ => ⟨L, x1, x2, fun x z => h _ _ (a x z)⟩
theorem ok_numberD (T : Env fa fn K mg) : Good P w K mg base CX0 2 ("_law_number", none) ["_law_text"] sp_numberD := by
  have G_w_figures := ok_figures (P := P) (w := w) (base := base) T
  refine good_mk T 50 (d := d_w_number) (N := ["_law_text"]) (ps := ["_law_text"]) rfl rfl sc_w_number (fun _ _ _ _ _ _ us hl => match us, hl with | [_], _ => rfl) (fun vs H Q E h => ?_) (fun f cdv A outer s H vs Q E hr h => ?_)
  · obtain ⟨L, rfl, _⟩ := h; rfl
  · obtain ⟨L, rfl, hl, k⟩ := h
    have hy : endD L → Q (.int (valW L)) H := fun e => k _ (.inl ⟨e, rfl⟩)
    have hn : ¬ endD L → Q .non H := fun e => k _ (.inr ⟨e, rfl⟩)
    have hsz := sizeBig
    refine ⟨_, (pss_cons (ps_if (pt_cmpR op_eq (pv 0) pe_str (nomark _)) (pss_one (ps_ret pe_int)) pss_nil)
      (pss_cons (ps_if (PW.pt (pw_and (pt_cmpR op_eq (pe_slice sl_str (pv 0) po_none (po_some pe_int)) pe_str (nomark _)) (pw_and1 (pt_val (pe_cgK K rfl G_w_figures (hr.mono (by decide)) (T.glo 61) (pa_cons (pe_slice sl_str (pv 0) (po_some pe_int) po_none) (pa_cons pe_int pa_nil))))))) (pss_one (ps_ret (pe_un un_neg (pe_callTy call_int_str (by rfl) (T.free 2) (by decide +kernel) (pa_cons (pe_slice sl_str (pv 0) (po_some pe_int) po_none) pa_nil))))) pss_nil)
      (pss_cons (ps_if (pt_val (pe_cgK K rfl G_w_figures (hr.mono (by decide)) (T.glo 61) (pa_cons (pv 0) (pa_cons pe_int pa_nil)))) (pss_one (ps_ret (pe_callTy call_int_str (by rfl) (T.free 2) (by decide +kernel) (pa_cons (pv 0) pa_nil)))) pss_nil)
      (pss_one (ps_ret pe_non))))), ?_⟩
    walk_at "rd"
    rw [tx_nought, tx_eq]
    refine ite_d (fun z => ?_) (fun z => ?_)
    · walk_at "rd"
      subst z
      have := hy endD_nought.1
      rw [endD_nought.2] at this
      exact this
    walk_at "rd"
    refine ⟨_, rfl, len_ok (by omega), ?_⟩
    have ec := cut_to L 1
    rw [show (((1 : Nat) : Int)) = 1 from rfl] at ec
    have ef := cut_from L 1
    rw [show (((1 : Nat) : Int)) = 1 from rfl] at ef
    rw [ec, show Str.ofString "-" = tx [45] from str_tx (by decide +kernel)]
    walk_at "rd"
    rw [tx_eq]
    by_cases z4 : L.head? = some 45
    · obtain ⟨l, rfl⟩ : ∃ l, L = 45 :: l := by
        cases L with
        | nil => cases z4
        | cons c l => cases z4; exact ⟨l, rfl⟩
      have ef' : cutS (tx (45 :: l)) (some 1) none = tx l := ef
      rw [decide_eq_true (show (45 :: l).take 1 = [45] from rfl)]
      walk_at "rd"
      refine ⟨_, rfl, len_ok (by omega), ?_⟩
      rw [ef']
      rw [List.length_cons] at hl
      refine ⟨l, 13, rfl, by omega, fun b hb => ?_⟩
      cases b with
      | true =>
        have ok := endD_minus.mpr (hb.mp rfl)
        obtain ⟨f1, f2, f3, f4⟩ := hb.mp rfl
        walk_at "rd"
        refine ⟨_, rfl, len_ok (by rw [List.length_cons]; omega), ?_⟩
        rw [ef']
        refine ⟨_, ((dig l : Nat) : Int), rfl, intText_digits (x := tx l) f4 f1 (by rw [tx_len]; omega), by rw [tx_len]; omega, ?_⟩
        walk_at "rd"
        have := hy ok
        rw [valW_minus] at this
        exact this
      | false =>
        have no : ¬ endD (45 :: l) := fun e => by
          have := hb.mpr (endD_minus.mp e)
          cases this
        walk_at "rd"
        refine ⟨45 :: l, 13, rfl, by rw [List.length_cons]; omega, fun b' hb' => ?_⟩
        cases b' with
        | true =>
          have := (hb'.mp rfl).2.2.2 45 List.mem_cons_self
          omega
        | false =>
          walk_at "rd"
          exact hn no
    · have ne : ¬ L.take 1 = [45] := fun e => z4 (by
        cases L with
        | nil => cases e
        | cons c l => cases e; rfl)
      rw [decide_eq_false ne]
      walk_at "rd"
      refine ⟨L, 13, rfl, by omega, fun b hb => ?_⟩
      cases b with
      | true =>
        have ok := (endD_plain z4 z).mpr (hb.mp rfl)
        obtain ⟨f1, f2, f3, f4⟩ := hb.mp rfl
        walk_at "rd"
        refine ⟨_, ((dig L : Nat) : Int), rfl, intText_digits (x := tx L) f4 f1 (by rw [tx_len]; omega), by rw [tx_len]; omega, ?_⟩
        have := hy ok
        rw [valW_plain z4] at this
        exact this
      | false =>
        walk_at "rd"
        exact hn fun e => by
          have := hb.mpr ((endD_plain z4 z).mp e)
          cases this
/-- runs told as a list, or None -/
def RunsIs (H H' : Hp) (o : Option (List Rn)) (x : V) : Prop := (o = none ∧ x = .non) ∨ ∃ p rs, o = some rs ∧ x = .ref p ∧ H p = none ∧ RnL H' p rs
def sp_runsL : Sp := fun vs H Q _ => ∃ L : List Nat, vs = [.str (tx L)] ∧ L.length ≤ 900 ∧ ∀ H' x, Same H H' → RunsIs H H' (runsD [] L) x → Q x H'
theorem mp_runsL : MonP sp_runsL := fun vs H Q Q' E h ⟨L, x1, x2, k⟩ => ⟨L, x1, x2, fun H' x a b => h _ _ (k H' x a b)⟩
set_option maxHeartbeats 8000000 in
theorem ok_runsL (T : Env fa fn K mg) : Good P w K mg base CX0 2 ("_law_runs", none) ["_law_text"] sp_runsL := by
  have G_w_figures := ok_figures (P := P) (w := w) (base := base) T
  refine good_mk T 49 (d := d_w_runs) (N := ["_law_text", "_law_runs_here", "_law_at_here", "_law_amount"]) (ps := ["_law_text"]) rfl rfl sc_w_runs (fun _ _ _ _ _ _ us hl => match us, hl with | [_], _ => rfl) (fun vs H Q E h => ?_) (fun f cdv A outer s H vs Q E hr h => ?_)
  · obtain ⟨L, rfl, _⟩ := h; rfl
  · obtain ⟨L, rfl, hl, k⟩ := h
    have hsz := sizeBig
    refine ⟨_, (pss_cons (ps_set (i := 1) sc_w_runs.nd rfl (Or.inl rfl) (pe_lst pa_nil))
      (pss_cons (ps_while PassesOwn.never (pt_cmpR op_ne (pv 0) pe_str (nomark _)) (pss_cons (ps_set (i := 2) sc_w_runs.nd rfl (Or.inl rfl) pe_int)
      (pss_cons (ps_while PassesOwn.never (PW.pt (pw_and (pt_cmpR op_lt (pv 2) (pe_callB call_len_str (by rfl) (T.free 4) (by decide +kernel) (pa_cons (pv 0) pa_nil)) (nomark _)) (pw_and1 (pt_cmpR op_in_sign (pe_ix ix_str (pv 0) (pv 2) (fun _ _ => rfl)) pe_str rfl)))) (pss_one (ps_set (i := 2) sc_w_runs.nd rfl (Or.inl rfl) (pe_op op_add (pv 2) pe_int))))
      (pss_cons (ps_if (PW.pt (pw_or (pt_cmpR op_eq (pv 2) (pe_callB call_len_str (by rfl) (T.free 4) (by decide +kernel) (pa_cons (pv 0) pa_nil)) (nomark _)) (pw_or1 (pt_cmpR op_notIn_sign (pe_ix ix_str (pv 0) (pv 2) (fun _ _ => rfl)) pe_str rfl)))) (pss_one (ps_ret pe_non)) pss_nil)
      (pss_cons (ps_if (PW.pt (pw_and (pt_cmpR op_gt (pv 2) pe_int (nomark _)) (pw_and1 (PW.pt (pw_or (pt_not (pt_val (pe_cgK K rfl G_w_figures (hr.mono (by decide)) (T.glo 61) (pa_cons (pe_slice sl_str (pv 0) po_none (po_some (pv 2))) (pa_cons pe_int pa_nil))))) (pw_or1 (pt_cmpR op_eq (pe_slice sl_str (pv 0) po_none (po_some (pv 2))) pe_str (nomark _)))))))) (pss_one (ps_ret pe_non)) pss_nil)
      (pss_cons (ps_set (i := 3) sc_w_runs.nd rfl (Or.inl rfl) pe_int)
      (pss_cons (ps_if (pt_cmpR op_gt (pv 2) pe_int (nomark _)) (pss_one (ps_set (i := 3) sc_w_runs.nd rfl (Or.inl rfl) (pe_callTy call_int_str (by rfl) (T.free 2) (by decide +kernel) (pa_cons (pe_slice sl_str (pv 0) po_none (po_some (pv 2))) pa_nil)))) pss_nil)
      (pss_cons (ps_expr (pe_bm PySem.F.plainAttrs_list PySem.F.slot_list_append PySem.F.type_list_append mt_append (pv 1) (pa_cons (pe_tup (pa_cons (pv 3) (pa_cons (pe_ix ix_str (pv 0) (pv 2) (fun _ _ => rfl)) pa_nil))) pa_nil)))
      (pss_one (ps_set (i := 0) sc_w_runs.nd rfl (Or.inl rfl) (pe_slice sl_str (pv 0) (po_some (pe_op op_add (pv 2) pe_int)) po_none)))))))))))
      (pss_one (ps_ret (pv 1))))), ?_⟩
    walk_at "rd"
    refine rd_new (hn := by show 0 ≤ sizeLine; decide) fun p hp => ?_
    have sp := same_upd (o := HO.lst []) hp
    walk_at "rd"
    refine while_m (fun m σ H' => ∃ (L' : List Nat) (rs : List Rn) (x2 x3 : Option V), σ = [some (.str (tx L')), some (.ref p), x2, x3] ∧ m = L'.length ∧ L'.length ≤ L.length ∧ rs.length + L'.length ≤ L.length ∧ Same H H' ∧ RnL H' p rs ∧ runsD [] L = (runsD [] L').map (rs ++ ·)) L.length ⟨L, [], none, none, rfl, rfl, Nat.le_refl _, by simp, sp, ⟨[], upd_same, RL.nil⟩, by cases runsD [] L <;> rfl⟩ ?_
    rintro m σ H1 ⟨L', rs, x2, x3, rfl, rfl, hL', hrs, sm, ⟨ts, hpl, hRL⟩, hD⟩
    walk_at "rd"
    rw [tx_nil, tx_eq]
    refine ite_nd (fun z => ?_) (fun z => ?_)
    · refine ⟨fun σ' H' => ∃ m', m' < L'.length ∧ _, fun _ _ h => h, ?_⟩
      walk_at "rhi"
      refine rd_cut (fun σ H' => H' = H1 ∧ ∃ i : Nat, σ = [some (.str (tx L')), some (.ref p), some (.int (i : Int)), x3] ∧ i ≤ L'.length ∧ (∀ c ∈ L'.take i, 48 ≤ c ∧ c ≤ 57) ∧ ∀ c, L'[i]? = some c → ¬ (48 ≤ c ∧ c ≤ 57)) (by
        have := mp_figures
        have := mc_lenS
        have := mc_intS
        have := mr_inS
        have := mr_ninS
        have := mr_sl
        walk_at "mono") ?_ ?_
      · walk_at "rd"
        refine while_m (fun m σ H' => H' = H1 ∧ ∃ i : Nat, σ = [some (.str (tx L')), some (.ref p), some (.int (i : Int)), x3] ∧ m = L'.length - i ∧ i ≤ L'.length ∧ (∀ c ∈ L'.take i, 48 ≤ c ∧ c ≤ 57)) L'.length ⟨rfl, 0, rfl, rfl, Nat.zero_le _, fun c m => by simp at m⟩ ?_
        rintro m σ H2 ⟨rfl, i, rfl, rfl, hi, hd⟩
        walk_at "rd"
        refine ⟨_, rfl, len_ok (by omega), ?_⟩
        walk_at "rd"
        rw [tx_len]
        refine ite_d (fun c1 => ?_) (fun c1 => ?_)
        · have hi' : i < L'.length := by omega
          have hg := at_get hi'
          generalize L'[i] = c at hg
          walk_at "rd"
          refine ⟨_, _, c, rfl, rfl, len_ok (by omega), by show atI L' (i : Int) = some c; exact atI_nat hg, ?_⟩
          walk_at "rd"
          refine ⟨c, _, rfl, rfl, ?_⟩
          rw [in_figs]
          walk_at "rd"
          refine ite_d (fun c2 => ?_) (fun c2 => ?_)
          · refine ⟨fun σ' H' => ∃ m', m' < L'.length - i ∧ _, fun _ _ h => h, ?_⟩
            walk_at "rd"
            refine ⟨L'.length - (i + 1), by omega, rfl, i + 1, rfl, rfl, hi', fun d md => ?_⟩
            rw [List.take_succ, hg] at md
            rcases List.mem_append.mp md with md | md
            · exact hd d md
            · have e : d = c := by simpa using md
              rw [e]; exact c2
          · walk_at "rd"
            exact ⟨rfl, i, rfl, hi, hd, fun d hd' => by rw [hg] at hd'; cases hd'; exact c2⟩
        · walk_at "rd"
          exact ⟨rfl, i, rfl, hi, hd, fun d hd' => by
            have := (List.getElem?_eq_some_iff.mp hd').1
            omega⟩
      rintro σ H2 ⟨rfl, i, rfl, hi, hd, hno⟩
      have hsplit : L' = L'.take i ++ L'.drop i := (List.take_append_drop i L').symm
      have hR : runsD [] L' = runsD (L'.take i) (L'.drop i) := by
        conv => lhs; rw [hsplit]
        rw [runsD_figs _ _ _ hd, List.nil_append]
      have hln : (L'.take i).length = i := by rw [List.length_take]; omega
      have fin : runsD [] L' = none → Q .non H2 := fun e => by
        rw [e] at hD
        exact k H2 _ sm (.inl ⟨hD, rfl⟩)
      walk_at "rd"
      refine ⟨_, rfl, len_ok (by omega), ?_⟩
      walk_at "rd"
      rw [tx_len]
      refine ite_d (fun c1 => ?_) (fun c1 => ?_)
      · walk_at "rd"
        refine fin ?_
        have ei : i = L'.length := by omega
        rw [hR, ei, List.drop_length, runsD_nil, if_neg]
        rw [List.take_length]
        exact z
      have hi' : i < L'.length := by omega
      have hg := at_get hi'
      have hdr : L'.drop i = L'[i] :: L'.drop (i + 1) := List.drop_eq_getElem_cons hi'
      generalize L'[i] = c at hg hdr
      have hcf := hno c hg
      rw [hdr, runsD_cons, if_neg hcf] at hR
      walk_at "rd"
      refine ⟨_, _, c, rfl, rfl, len_ok (by omega), by show atI L' (i : Int) = some c; exact atI_nat hg, ?_⟩
      walk_at "rd"
      refine ⟨c, _, rfl, rfl, ?_⟩
      rw [in_signs]
      walk_at "rd"
      refine ite_nd (fun c2 => ?_) (fun c2 => ?_)
      · walk_at "rd"
        exact fin (by rw [hR, if_neg c2])
      rw [if_pos c2] at hR
      obtain ⟨acc, hacc⟩ : ∃ acc, acc = L'.take i := ⟨_, rfl⟩
      rw [← hacc] at hR hd hln
      have ecut : cutS (tx L') none (some (i : Int)) = tx acc := by rw [cut_to, hacc]
      have erest : cutS (tx L') (some ((i : Int) + 1)) none = tx (L'.drop (i + 1)) := by
        rw [show (i : Int) + 1 = ((i + 1 : Nat) : Int) by omega, cut_from]
      have next : ∀ (n : Nat) (x2 x3 : Option V) (H3 : Hp), H3 = H2 → amtD acc = some n → ∀ t, H3 t = none → ∃ m', m' < L'.length ∧ ∃ (L'' : List Nat) (rs' : List Rn) (y2 y3 : Option V), [some (V.str (tx (L'.drop (i + 1)))), some (.ref p), x2, x3] = [some (.str (tx L'')), some (.ref p), y2, y3] ∧ m' = L''.length ∧ L''.length ≤ L.length ∧ rs'.length + L''.length ≤ L.length ∧ Same H (upd (upd H3 t (.tup [.int (n : Int), .str ⟨#[c]⟩])) p (.lst (ts.map V.ref ++ [.ref t]))) ∧ RnL (upd (upd H3 t (.tup [.int (n : Int), .str ⟨#[c]⟩])) p (.lst (ts.map V.ref ++ [.ref t]))) p rs' ∧ runsD [] L = (runsD [] L'').map (rs' ++ ·) := fun n x2 x3 H3 e3 ha t ht => by
        subst e3
        have ld : (L'.drop (i + 1)).length = L'.length - (i + 1) := List.length_drop ..
        have st := same_upd (o := HO.tup [V.int (n : Int), V.str ⟨#[c]⟩]) ht
        have U3 : (upd H3 t (HO.tup [V.int (n : Int), V.str ⟨#[c]⟩])) t = some (.tup [.int (((n, c) : Rn).1 : Int), .str (tx [((n, c) : Rn).2])]) := upd_same
        refine ⟨(L'.drop (i + 1)).length, by omega, L'.drop (i + 1), rs ++ [(n, c)], x2, x3, rfl, rfl, by omega, by rw [List.length_append, List.length_singleton]; omega, same_put (sm.trans st) hp, ⟨ts ++ [t], by rw [upd_same, List.map_append]; rfl, ((hRL.keep (Tup.of st)).app (t := t) (r := (n, c)) U3).keep (tup_put (st _ _ hpl))⟩, ?_⟩
        rw [hD, hR, ha]
        cases runsD [] (L'.drop (i + 1)) with
        | none => rfl
        | some r0 => simp
      have lts := hRL.1
      have amt0 : acc = [] → amtD acc = some 1 := fun e => by unfold amtD; rw [if_pos e]
      walk_at "rhi"
      refine rd_cut (fun σ H' => H' = H2 ∧ σ = [some (.str (tx L')), some (.ref p), some (.int (i : Int)), x3] ∧ ∃ n, amtD acc = some n) (by
        have := mp_figures
        have := mc_lenS
        have := mc_intS
        have := mr_inS
        have := mr_ninS
        have := mr_sl
        walk_at "mono") ?_ ?_
      · walk_at "rd"
        refine ite_d (fun c3 => ?_) (fun c3 => ?_)
        · have a0 : acc ≠ [] := fun e => by rw [e] at hln; simp only [List.length_nil] at hln; omega
          walk_at "rd"
          refine ⟨_, rfl, len_ok (by omega), ?_⟩
          rw [ecut]
          refine ⟨acc, 13, rfl, by omega, fun b hb => ?_⟩
          cases b with
          | true =>
            obtain ⟨f1, f2, f3, f4⟩ := hb.mp rfl
            walk_at "rd"
            refine ⟨_, rfl, len_ok (by omega), ?_⟩
            rw [ecut]
            walk_at "rd"
            rw [tx_one, tx_eq]
            refine ite_d (fun c4 => ?_) (fun c4 => ?_)
            · walk_at "rd"
              refine fin ?_
              have e : amtD acc = none := by
                unfold amtD
                rw [if_neg a0, if_pos (.inr (.inr c4))]
              rw [hR, e]
            · walk_at "rd"
              refine ⟨rfl, rfl, dig acc, ?_⟩
              unfold amtD
              rw [if_neg a0, if_neg]
              rintro (h | h | h)
              · omega
              · exact f3 h
              · exact c4 h
          | false =>
            walk_at "rd"
            refine fin ?_
            have e : amtD acc = none := by
              unfold amtD
              rw [if_neg a0]
              refine if_pos ?_
              apply Classical.byContradiction
              intro q
              have := hb.mpr ⟨a0, Nat.not_lt.mp fun h => q (.inl h), (fun h => q (.inr (.inl h))), hd⟩
              cases this
            rw [hR, e]
        · walk_at "rd"
          exact ⟨rfl, rfl, 1, amt0 (List.eq_nil_of_length_eq_zero (by omega))⟩
      rintro σ H3 ⟨rfl, rfl, n, hn⟩
      walk_at "rhi"
      refine rd_cut (fun σ H' => H' = H3 ∧ σ = [some (.str (tx L')), some (.ref p), some (.int (i : Int)), some (.int (n : Int))]) (by
        have := mp_figures
        have := mc_lenS
        have := mc_intS
        have := mr_inS
        have := mr_ninS
        have := mr_sl
        walk_at "mono") ?_ ?_
      · walk_at "rd"
        refine ite_d (fun c3 => ?_) (fun c3 => ?_)
        · have a0 : acc ≠ [] := fun e => by rw [e] at hln; simp only [List.length_nil] at hln; omega
          have hn' := hn
          unfold amtD at hn'
          rw [if_neg a0] at hn'
          split at hn'
          · cases hn'
          · next q =>
            cases hn'
            walk_at "rd"
            refine ⟨_, rfl, len_ok (by omega), ?_⟩
            rw [ecut]
            have l13 : acc.length ≤ 13 := Nat.not_lt.mp fun h => q (.inl h)
            refine ⟨_, ((dig acc : Nat) : Int), rfl, intText_digits (x := tx acc) hd a0 (by rw [tx_len]; omega), by rw [tx_len]; omega, ?_⟩
            walk_at "rd"
            exact ⟨rfl, rfl⟩
        · walk_at "rd"
          have e := amt0 (List.eq_nil_of_length_eq_zero (by omega))
          rw [hn] at e
          cases e
          exact ⟨rfl, rfl⟩
      rintro σ H4 ⟨rfl, rfl⟩
      walk_at "rd"
      refine rd_tyL hpl ?_
      walk_at "rd"
      refine ⟨_, _, c, rfl, rfl, len_ok (by omega), by show atI L' (i : Int) = some c; exact atI_nat hg, ?_⟩
      walk_at "rd"
      refine rd_new (hn := by show 2 ≤ sizeLine; decide) fun t ht => ?_
      have pt : (upd H4 t (HO.tup [V.int (n : Int), V.str ⟨#[c]⟩])) p = some (.lst (ts.map V.ref)) := (same_upd ht) _ _ hpl
      walk_at "rd"
      refine rd_append pt (by rw [List.length_map]; omega) ?_
      walk_at "rd"
      refine ⟨_, rfl, len_ok (by omega), ?_⟩
      rw [erest]
      walk_at "rd"
      exact next n _ _ _ rfl hn t ht
    · subst z
      rw [runsD_nil, if_pos rfl] at hD
      walk_at "rd"
      have e : runsD [] L = some rs := by
        rw [hD]
        show some (rs ++ []) = some rs
        rw [List.append_nil]
      exact k H1 _ sm (.inr ⟨p, rs, e, rfl, hp, ts, hpl, hRL⟩)
theorem spl_two (c : Nat) (L : List Nat) : ∃ A R, TL.spl [c] 0 [] L = A :: R ∧ A.length ≤ L.length ∧ ((∃ B, R = [B] ∧ cutC c L = some (A, B) ∧ c ∉ B ∧ B.length ≤ L.length) ∨ (R.length ≠ 1 ∧ ∀ A B, cutC c L = some (A, B) → c ∈ B)) := by
  cases e : cutC c L with
  | none => exact ⟨L, [], spl_nocut e, Nat.le_refl _, .inr ⟨by simp, fun A B h => by cases h⟩⟩
  | some p =>
    obtain ⟨A, B⟩ := p
    have hl := cutC_len e
    refine ⟨A, TL.spl [c] 0 [] B, by rw [spl_cut e]; rfl, hl.1, ?_⟩
    cases e2 : cutC c B with
    | none => exact .inl ⟨B, by rw [spl_nocut e2]; rfl, rfl, cutC_none e2, hl.2⟩
    | some p2 =>
      obtain ⟨A2, B2⟩ := p2
      refine .inr ⟨?_, fun A' B' h => by cases h; exact cutC_mem e2⟩
      rw [spl_cut e2, List.length_cons]
      obtain ⟨A3, R3, e3⟩ : ∃ A3 R3, TL.spl [c] 0 [] B2 = A3 :: R3 := by
        cases e4 : cutC c B2 with
        | none => exact ⟨_, _, spl_nocut e4⟩
        | some p3 => exact ⟨_, _, spl_cut e4⟩
      rw [e3, List.length_cons]
      omega
theorem endD_free {L : List Nat} (h : endD L) : ∀ c ∈ L, c = 45 ∨ (48 ≤ c ∧ c ≤ 57) := fun c m => by
  obtain ⟨_, _, _, h4, _⟩ := h
  unfold figsOf at h4
  split at h4
  · next z =>
    cases L with
    | nil => cases m
    | cons d l =>
      cases z
      rcases List.mem_cons.mp m with m | m
      · exact .inl m
      · exact .inr (h4 c m)
  · exact .inr (h4 c m)
/-- a pattern told as a tuple, or None -/
def PatIs (H H' : Hp) (o : Option (Int × Int × List Rn)) (x : V) : Prop := (o = none ∧ x = .non) ∨ ∃ (t p : Addr) (l tp : Int) (rs : List Rn), o = some (l, tp, rs) ∧ x = .ref t ∧ H t = none ∧ H p = none ∧ H' t = some (.tup [.int l, .int tp, .ref p]) ∧ RnL H' p rs
def sp_readL : Sp := fun vs H Q _ => ∃ L : List Nat, vs = [.str (tx L)] ∧ L.length ≤ 800 ∧ ∀ H' x, Same H H' → PatIs H H' (patD L) x → Q x H'
theorem mp_readL : MonP sp_readL := fun vs H Q Q' E h ⟨L, x1, x2, k⟩ => ⟨L, x1, x2, fun H' x a b => h _ _ (k H' x a b)⟩
open Classical in
set_option maxHeartbeats 8000000 in
theorem ok_readL (T : Env fa fn K mg) : Good P w K mg base CX0 3 ("_law_read", none) ["_law_text"] sp_readL := by
  have G_w_number := ok_numberD (P := P) (w := w) (base := base) T
  have G_w_runs := ok_runsL (P := P) (w := w) (base := base) T
  refine good_mk T 51 (d := d_w_read) (N := ["_law_text", "_law_ends", "_law_halves", "_law_left", "_law_top", "_law_runs_here"]) (ps := ["_law_text"]) rfl rfl sc_w_read (fun _ _ _ _ _ _ us hl => match us, hl with | [_], _ => rfl) (fun vs H Q E h => ?_) (fun f cdv A outer s H vs Q E hr h => ?_)
  · obtain ⟨L, rfl, _⟩ := h; rfl
  · obtain ⟨L, rfl, hl, k⟩ := h
    have hsz := sizeBig
    refine ⟨_, (pss_cons (ps_set (i := 1) sc_w_read.nd rfl (Or.inl rfl) (pe_split (pv 0) pe_str))
      (pss_cons (ps_set (i := 2) sc_w_read.nd rfl (Or.inl rfl) (pe_split (pe_ix (ix_listK K rfl) (pv 1) pe_int (fun _ _ => rfl)) pe_str))
      (pss_cons (ps_if (PW.pt (pw_or (pt_cmpR op_ne (pe_callB (call_lenK K rfl) (by rfl) (T.free 4) (by decide +kernel) (pa_cons (pv 1) pa_nil)) pe_int (nomark _)) (pw_or1 (pt_cmpR op_ne (pe_callB (call_lenK K rfl) (by rfl) (T.free 4) (by decide +kernel) (pa_cons (pv 2) pa_nil)) pe_int (nomark _))))) (pss_one (ps_ret pe_non)) pss_nil)
      (pss_cons (ps_set (i := 3) sc_w_read.nd rfl (Or.inl rfl) (pe_cgK K rfl G_w_number (hr.mono (by decide)) (T.glo 62) (pa_cons (pe_ix (ix_listK K rfl) (pv 2) pe_int (fun _ _ => rfl)) pa_nil)))
      (pss_cons (ps_set (i := 4) sc_w_read.nd rfl (Or.inl rfl) (pe_cgK K rfl G_w_number (hr.mono (by decide)) (T.glo 62) (pa_cons (pe_ix (ix_listK K rfl) (pv 2) pe_int (fun _ _ => rfl)) pa_nil)))
      (pss_cons (ps_set (i := 5) sc_w_read.nd rfl (Or.inl rfl) (pe_cgK K rfl G_w_runs (hr.mono (by decide)) (T.glo 63) (pa_cons (pe_ix (ix_listK K rfl) (pv 1) pe_int (fun _ _ => rfl)) pa_nil)))
      (pss_cons (ps_if (PW.pt (pw_or (pt_cmpR op_isN (pv 3) pe_non (nomark _)) (pw_or (pt_cmpR op_isN (pv 4) pe_non (nomark _)) (pw_or1 (pt_cmpR op_isN (pv 5) pe_non (nomark _)))))) (pss_one (ps_ret pe_non)) pss_nil)
      (pss_one (ps_ret (pe_tup (pa_cons (pv 3) (pa_cons (pv 4) (pa_cons (pv 5) pa_nil))))))))))))), ?_⟩
    walk_at "rd"
    refine rd_m1 ?_
    walk_at "rd"
    refine rd_st ?_
    walk_at "rd"
    refine ⟨_, _, rfl, rfl, by decide +kernel, by rw [tx_len]; omega, fun p1 hp1 => ?_⟩
    rw [tx_colon, split_c L (by decide)]
    obtain ⟨A, R, eA, lA, hA⟩ := spl_two 58 L
    rw [eA]
    have s1 := same_upd (o := HO.lst (((A :: R).map tx).map V.str)) hp1
    have L1 : (upd H p1 (HO.lst (((A :: R).map tx).map V.str))) p1 = some (.lst (V.str (tx A) :: (R.map tx).map V.str)) := upd_same
    generalize upd H p1 (HO.lst (((A :: R).map tx).map V.str)) = H1 at *
    walk_at "rd"
    refine rd_m1 ?_
    walk_at "rd"
    refine rd_ixL (SqL.of L1) (atI_nat (j := 0) rfl) ?_
    walk_at "rd"
    refine rd_st ?_
    walk_at "rd"
    refine ⟨_, _, rfl, rfl, by decide +kernel, by rw [tx_len]; omega, fun p2 hp2 => ?_⟩
    rw [tx_comma, split_c A (by decide)]
    obtain ⟨l, R2, e2, l2, h2⟩ := spl_two 44 A
    rw [e2]
    have s2 := same_upd (o := HO.lst (((l :: R2).map tx).map V.str)) hp2
    have L2' : (upd H1 p2 (HO.lst (((l :: R2).map tx).map V.str))) p2 = some (.lst (V.str (tx l) :: (R2.map tx).map V.str)) := upd_same
    have L12 := s2 _ _ L1
    have s12 := s1.trans s2
    generalize upd H1 p2 (HO.lst (((l :: R2).map tx).map V.str)) = H2 at *
    walk_at "rd"
    refine rd_len (SqL.of L12) ?_
    walk_at "rd"
    rcases hA with ⟨B, rfl, ecB, nB, lB⟩ | ⟨nR, hR⟩
    rotate_left
    · rw [decide_eq_false (show ¬ ((((V.str (tx A) :: (R.map tx).map V.str).length : Nat) : Int) = 2) by rw [List.length_cons, List.length_map, List.length_map]; omega)]
      walk_at "rd"
      refine k H2 _ s12 (.inl ⟨?_, rfl⟩)
      unfold patD
      cases e : cutC 58 L with
      | none => rfl
      | some pq =>
        obtain ⟨A', B'⟩ := pq
        have hm := hR A' B' e
        dsimp only
        cases cutC 44 A' with
        | none => rfl
        | some lt =>
          obtain ⟨l', t'⟩ := lt
          dsimp only
          split
          · cases er : runsD [] B' with
            | none => rfl
            | some rs =>
              rcases runsD_signs er 58 hm with h | h
              · omega
              · exact absurd h (by decide)
          · rfl
    rw [decide_eq_true (show (((V.str (tx A) :: ([B].map tx).map V.str).length : Nat) : Int) = 2 from rfl)]
    walk_at "rd"
    refine rd_len (SqL.of L2') ?_
    walk_at "rd"
    rcases h2 with ⟨t, rfl, ect, nt, lt⟩ | ⟨nR, hR⟩
    rotate_left
    · rw [decide_eq_false (show ¬ ((((V.str (tx l) :: (R2.map tx).map V.str).length : Nat) : Int) = 2) by rw [List.length_cons, List.length_map, List.length_map]; omega)]
      walk_at "rd"
      refine k H2 _ s12 (.inl ⟨?_, rfl⟩)
      unfold patD
      rw [ecB]
      dsimp only
      cases e : cutC 44 A with
      | none => rfl
      | some pq =>
        obtain ⟨l', t'⟩ := pq
        have hm := hR l' t' e
        dsimp only
        rw [if_neg]
        rintro ⟨_, et⟩
        rcases endD_free et 44 hm with h | h <;> omega
    rw [decide_eq_true (show (((V.str (tx l) :: ([t].map tx).map V.str).length : Nat) : Int) = 2 from rfl)]
    walk_at "rd"
    have pe : patD L = if endD l ∧ endD t then (runsD [] B).map fun rs => (valW l, valW t, rs) else none := by
      unfold patD
      rw [ecB]
      dsimp only
      rw [ect]
    refine rd_ixL (SqL.of L2') (atI_nat (j := 0) rfl) ?_
    walk_at "rd"
    refine ⟨l, rfl, by omega, fun x3 hx3 => ?_⟩
    walk_at "rd"
    refine rd_ixL (SqL.of L2') (atI_nat (j := 1) rfl) ?_
    walk_at "rd"
    refine ⟨t, rfl, by omega, fun x4 hx4 => ?_⟩
    walk_at "rd"
    refine rd_ixL (SqL.of L12) (atI_nat (j := 1) rfl) ?_
    walk_at "rd"
    refine ⟨B, rfl, by omega, fun H3 x5 s3 hx5 => ?_⟩
    have s13 := s12.trans s3
    walk_at "rd"
    rcases hx3 with ⟨el, rfl⟩ | ⟨nl, rfl⟩
    rotate_left
    · walk_at "rd"
      exact k H3 _ s13 (.inl ⟨by rw [pe, if_neg fun z => nl z.1], rfl⟩)
    rw [decide_eq_false (show ¬ V.int (valW l) = V.non from fun z => by cases z)]
    walk_at "rd"
    rcases hx4 with ⟨et, rfl⟩ | ⟨nt', rfl⟩
    rotate_left
    · walk_at "rd"
      exact k H3 _ s13 (.inl ⟨by rw [pe, if_neg fun z => nt' z.2], rfl⟩)
    rw [decide_eq_false (show ¬ V.int (valW t) = V.non from fun z => by cases z)]
    walk_at "rd"
    rcases hx5 with ⟨en, rfl⟩ | ⟨p, rs, en, rfl, hp, hRn⟩
    · walk_at "rd"
      exact k H3 _ s13 (.inl ⟨by rw [pe, if_pos ⟨el, et⟩, en]; rfl, rfl⟩)
    rw [decide_eq_false (show ¬ V.ref p = V.non from fun z => by cases z)]
    walk_at "rd"
    refine rd_new (hn := by show 3 ≤ sizeLine; decide) fun tt ht => ?_
    have st := same_upd (o := HO.tup [V.int (valW l), V.int (valW t), V.ref p]) ht
    exact k _ _ (s13.trans st) (.inr ⟨tt, p, valW l, valW t, rs, by rw [pe, if_pos ⟨el, et⟩, en]; rfl, rfl, none_ofW s13 ht, none_ofW s12 hp, upd_same, hRn.same st⟩)
end
end JF

/-! ### the state at a place, walked down by quarters (out of K31) -/
namespace JF
open PySem PySem.Spec PyProof.Rows L2
section
variable {P : Program} {w : World} {K : PySem.W.Frag} {mg : Str → Option Value} {base : Heap}
def sp_state_at (C : Addr) : Sp := fun vs H Q _ => ∃ (a : GA) (rows : List (Int × Addr)) (q : List Sq) (n : Nat) (S : Sq) (x y : Int), vs = [.ref a.g, .int (n : Int), .int x, .int y] ∧ GAt C H a rows q ∧ q[n]? = some S ∧ 1 ≤ S.level ∧ S.level ≤ 45 ∧ q.length ≤ 15500000 ∧ Q (.int (S.val x y)) H
theorem mp_state_at {C : Addr} : MonP (sp_state_at C) := fun vs H Q Q' E h ⟨a, rows, q, n, S, x, y, x1, x2, x3, x4, x5, x6, k⟩ => ⟨a, rows, q, n, S, x, y, x1, x2, x3, x4, x5, x6, h _ _ k⟩
set_option maxHeartbeats 8000000 in
theorem ok_state_at (T : Env fa fn K mg) : Good P w K mg base CX0 4 ("_law_state_at", none) ["_law_grove", "_law_field_here", "_law_x", "_law_y"] (sp_state_at (CG K)) := by
  have G_Grove_level_of := ok_level_of (P := P) (w := w) (base := base) T
  have G_Grove_quarters := ok_quarters (P := P) (w := w) (base := base) T
  have G_Grove_state_of := ok_state_of (P := P) (w := w) (base := base) T
  refine good_mk T 38 (d := d_w_state_at) (N := ["_law_grove", "_law_field_here", "_law_x", "_law_y", "_law_level", "_law_half"]) (ps := ["_law_grove", "_law_field_here", "_law_x", "_law_y"]) rfl rfl sc_w_state_at (fun _ _ _ _ _ _ us hl => match us, hl with | [_, _, _, _], _ => rfl) (fun vs H Q E h => ?_) (fun f cdv A outer σ0 H vs Q E hr h => ?_)
  · obtain ⟨a, rows, q, n, S, x, y, rfl, _⟩ := h; rfl
  · obtain ⟨a, rows, q, n, S, x, y, rfl, G, hn, h1, h45, hlen, k⟩ := h
    have hw := G.wf _ (List.mem_of_getElem? hn)
    have e2 := half_two h1
    refine ⟨_, (pss_cons (ps_set (i := 4) sc_w_state_at.nd rfl (Or.inl rfl) (pe_mgK K rfl (pv 0) (T.cls 13) (T.meth 25) G_Grove_level_of (hr.mono (by decide)) (pa_cons (pv 1) pa_nil)))
      (pss_cons (ps_set (i := 2) sc_w_state_at.nd rfl (Or.inl rfl) (pe_op op_add (pv 2) (pe_op op_fdivW (pe_op op_shl pe_int (pv 4)) pe_int)))
      (pss_cons (ps_set (i := 3) sc_w_state_at.nd rfl (Or.inl rfl) (pe_op op_add (pv 3) (pe_op op_fdivW (pe_op op_shl pe_int (pv 4)) pe_int)))
      (pss_cons (ps_if (PW.pt (pw_or (pt_not (pt_chain op_le op_lt pe_int (pv 2) (pe_op op_shl pe_int (pv 4)))) (pw_or1 (pt_not (pt_chain op_le op_lt pe_int (pv 3) (pe_op op_shl pe_int (pv 4))))))) (pss_one (ps_ret pe_int)) pss_nil)
      (pss_cons (ps_while PassesOwn.never (pt_cmpR op_gt (pv 4) pe_int (nomark _)) (pss_cons (ps_set (i := 5) sc_w_state_at.nd rfl (Or.inl rfl) (pe_op op_fdivW (pe_op op_shl pe_int (pv 4)) pe_int))
      (pss_cons (ps_set (i := 1) sc_w_state_at.nd rfl (Or.inl rfl) (pe_ix (ix_tupK K rfl) (pe_mgK K rfl (pv 0) (T.cls 13) (T.meth 23) G_Grove_quarters (hr.mono (by decide)) (pa_cons (pv 1) pa_nil)) (pe_op op_add (pe_op op_mulW pe_int (pe_op op_fdivW (pv 3) (pv 5))) (pe_op op_fdivW (pv 2) (pv 5))) (fun _ _ => rfl)))
      (pss_cons (ps_set (i := 2) sc_w_state_at.nd rfl (Or.inl rfl) (pe_op op_mod (pv 2) (pv 5)))
      (pss_cons (ps_set (i := 3) sc_w_state_at.nd rfl (Or.inl rfl) (pe_op op_mod (pv 3) (pv 5)))
      (pss_one (ps_set (i := 4) sc_w_state_at.nd rfl (Or.inl rfl) (pe_op op_sub (pv 4) pe_int))))))))
      (pss_one (ps_ret (pe_mgK K rfl (pv 0) (T.cls 13) (T.meth 54) G_Grove_state_of (hr.mono (by decide)) (pa_cons (pv 1) pa_nil))))))))), ?_⟩
    walk_at "rd"
    refine rd_methR G.ob (by rfl) ?_
    walk_at "rd"
    refine ⟨a, rows, q, n, _, rfl, G, hn, by omega, ?_⟩
    walk_at "rd"
    refine rd_I (by refine ⟨by omega, by omega, by decide⟩) ?_
    rw [shl_ok]
    walk_at "rd"
    rw [half_shl h1]
    refine rd_I (by refine ⟨by omega, by omega, by decide⟩) ?_
    rw [shl_ok]
    walk_at "rd"
    rw [half_shl h1]
    have out : ¬ (-S.half ≤ x ∧ x < S.half ∧ -S.half ≤ y ∧ y < S.half) → Q (.int 0) H := fun z => by
      unfold Sq.val at k
      rw [if_neg z] at k
      exact k
    have hp : 0 < S.half := Sq.two_pos _
    by_cases c1 : 0 ≤ x + S.half
    rotate_left
    · rw [decide_eq_false c1]; walk_at "rd"; exact out (by omega)
    rw [decide_eq_true c1]
    walk_at "rd"
    refine rd_I (by refine ⟨by omega, by omega, by decide⟩) ?_
    rw [shl_ok, e2]
    walk_at "rd"
    by_cases c2 : x + S.half < 2 * S.half
    rotate_left
    · rw [decide_eq_false c2]; walk_at "rd"; exact out (by omega)
    rw [decide_eq_true c2]
    walk_at "rd"
    by_cases c3 : 0 ≤ y + S.half
    rotate_left
    · rw [decide_eq_false c3]; walk_at "rd"; exact out (by omega)
    rw [decide_eq_true c3]
    walk_at "rd"
    refine rd_I (by refine ⟨by omega, by omega, by decide⟩) ?_
    rw [shl_ok, e2]
    walk_at "rd"
    by_cases c4 : y + S.half < 2 * S.half
    rotate_left
    · rw [decide_eq_false c4]; walk_at "rd"; exact out (by omega)
    rw [decide_eq_true c4]
    walk_at "rd"
    have kv : Q (.int (S.get (x + S.half) (y + S.half))) H := by
      unfold Sq.val at k
      rw [if_pos (by omega)] at k
      exact k
    refine while_m (fun m σ H' => H' = H ∧ ∃ (n1 : Nat) (C : Sq) (X Y : Int) (x5 : Option V), σ = [some (.ref a.g), some (.int (n1 : Int)), some (.int X), some (.int Y), some (.int (C.level : Int)), x5] ∧ m = C.level ∧ q[n1]? = some C ∧ C.level ≤ 45 ∧ 0 ≤ X ∧ X < 2 ^ C.level ∧ 0 ≤ Y ∧ Y < 2 ^ C.level ∧ C.get X Y = S.get (x + S.half) (y + S.half)) S.level
      ⟨rfl, n, S, x + S.half, y + S.half, none, rfl, rfl, hn, h45, by omega, by omega, by omega, by omega, rfl⟩ ?_
    rintro m σ H1 ⟨rfl, n1, C, X, Y, x5, rfl, rfl, hn1, hC60, X0, X1, Y0, Y1, hg⟩
    walk_at "rd"
    refine ite_d (fun hb => ?_) (fun hb => ?_)
    · obtain ⟨A', B, C', D, rfl⟩ := Sq.node_of (S := C) (by omega)
      have wC := G.wf _ (List.mem_of_getElem? hn1)
      obtain ⟨_, _, _, _, ee1, ee2, ee3⟩ := id wC
      have hl : (Sq.node A' B C' D).level = A'.level + 1 := rfl
      have h0 := Sq.two_pos A'.level
      have e2p : (2 : Int) ^ (Sq.node A' B C' D).level = 2 * 2 ^ A'.level := Sq.two_succ _
      have el2 : (((Sq.node A' B C' D).level : Nat) : Int) - 1 = (A'.level : Int) := by rw [hl]; omega
      have eh : (2 : Int) ^ (Sq.node A' B C' D).level / 2 = 2 ^ A'.level := by omega
      have hpm := two_mono (show A'.level ≤ 45 by omega)
      have e45 : (2 : Int) ^ 45 = 35184372088832 := by decide
      refine ⟨fun σ' H' => ∃ m', m' < (Sq.node A' B C' D).level ∧ _, fun _ _ h => h, ?_⟩
      walk_at "rd"
      refine rd_I (by refine ⟨by omega, by omega, by decide⟩) ?_
      rw [shl_ok]
      walk_at "rd"
      rw [eh]
      refine rd_methR G.ob (by rfl) ?_
      walk_at "rd"
      refine ⟨a, rows, q, n1, _, _, _, _, rfl, G, hn1, by omega, fun t x1 x2 x3 x4 ht q1 q2 q3 q4 => ?_⟩
      walk_at "rd"
      have gn := fun {u v : Int} (u0 : 0 ≤ u) (u1 : u < 2 ^ A'.level) (v0 : 0 ≤ v) (v1 : v < 2 ^ A'.level) => get_nodeW wC u0 u1 v0 v1
      rw [e2p] at X1 Y1
      have dx : (X < 2 ^ A'.level ∧ X / 2 ^ A'.level = 0 ∧ X % 2 ^ A'.level = X) ∨ (2 ^ A'.level ≤ X ∧ X / 2 ^ A'.level = 1 ∧ X % 2 ^ A'.level = X - 2 ^ A'.level) := by
        by_cases c : X < 2 ^ A'.level
        · exact .inl ⟨c, div_lo X0 c⟩
        · exact .inr ⟨by omega, div_hi (by omega) X1⟩
      have dy : (Y < 2 ^ A'.level ∧ Y / 2 ^ A'.level = 0 ∧ Y % 2 ^ A'.level = Y) ∨ (2 ^ A'.level ≤ Y ∧ Y / 2 ^ A'.level = 1 ∧ Y % 2 ^ A'.level = Y - 2 ^ A'.level) := by
        by_cases c : Y < 2 ^ A'.level
        · exact .inl ⟨c, div_lo Y0 c⟩
        · exact .inr ⟨by omega, div_hi (by omega) Y1⟩
      refine rd_fdiv h0 (by omega) ?_
      walk_at "rd"
      refine rd_I (small_mul (by decide) (by decide) (by rcases dy with ⟨_, d, _⟩ | ⟨_, d, _⟩ <;> rw [d] <;> decide) (by rcases dy with ⟨_, d, _⟩ | ⟨_, d, _⟩ <;> rw [d] <;> decide)) ?_
      walk_at "rd"
      refine rd_fdiv h0 (by omega) ?_
      walk_at "rd"
      rcases dx with ⟨cx, dx2, mx⟩ | ⟨cx, dx2, mx⟩ <;> rcases dy with ⟨cy, dy2, my⟩ | ⟨cy, dy2, my⟩
      · rw [dx2, dy2]
        refine rd_ixT (SqT.of ht) (v := .int (x1 : Int)) rfl ?_
        walk_at "rd"
        refine rd_mod h0 ?_
        walk_at "rd"
        refine rd_mod h0 ?_
        walk_at "rd"
        rw [mx, my]
        have z := (gn X0 cx Y0 cy).1
        have lv : ((A'.level : Nat) : Int) = (((Sq.node A' B C' D).level : Nat) : Int) - 1 := by omega
        refine ⟨A'.level, by omega, rfl, x1, A', X, Y, _, by rw [lv] <;> rfl, rfl, q1, by omega, by omega, by omega, by omega, by omega, z.symm.trans hg⟩
      · rw [dx2, dy2]
        refine rd_ixT (SqT.of ht) (v := .int (x3 : Int)) rfl ?_
        walk_at "rd"
        refine rd_mod h0 ?_
        walk_at "rd"
        refine rd_mod h0 ?_
        walk_at "rd"
        rw [mx, my]
        have z := (gn X0 cx (show 0 ≤ Y - 2 ^ A'.level by omega) (by omega)).2.2.1
        rw [Int.sub_add_cancel] at z
        have lv : ((C'.level : Nat) : Int) = (((Sq.node A' B C' D).level : Nat) : Int) - 1 := by omega
        refine ⟨C'.level, by omega, rfl, x3, C', X, (Y - 2 ^ A'.level), _, by rw [lv] <;> rfl, rfl, q3, by omega, by omega, by rw [ee2]; omega, by omega, by rw [ee2]; omega, z.symm.trans hg⟩
      · rw [dx2, dy2]
        refine rd_ixT (SqT.of ht) (v := .int (x2 : Int)) rfl ?_
        walk_at "rd"
        refine rd_mod h0 ?_
        walk_at "rd"
        refine rd_mod h0 ?_
        walk_at "rd"
        rw [mx, my]
        have z := (gn (show 0 ≤ X - 2 ^ A'.level by omega) (by omega) Y0 cy).2.1
        rw [Int.sub_add_cancel] at z
        have lv : ((B.level : Nat) : Int) = (((Sq.node A' B C' D).level : Nat) : Int) - 1 := by omega
        refine ⟨B.level, by omega, rfl, x2, B, (X - 2 ^ A'.level), Y, _, by rw [lv] <;> rfl, rfl, q2, by omega, by omega, by rw [ee1]; omega, by omega, by rw [ee1]; omega, z.symm.trans hg⟩
      · rw [dx2, dy2]
        refine rd_ixT (SqT.of ht) (v := .int (x4 : Int)) rfl ?_
        walk_at "rd"
        refine rd_mod h0 ?_
        walk_at "rd"
        refine rd_mod h0 ?_
        walk_at "rd"
        rw [mx, my]
        have z := (gn (show 0 ≤ X - 2 ^ A'.level by omega) (by omega) (show 0 ≤ Y - 2 ^ A'.level by omega) (by omega)).2.2.2
        rw [Int.sub_add_cancel, Int.sub_add_cancel] at z
        have lv : ((D.level : Nat) : Int) = (((Sq.node A' B C' D).level : Nat) : Int) - 1 := by omega
        refine ⟨D.level, by omega, rfl, x4, D, (X - 2 ^ A'.level), (Y - 2 ^ A'.level), _, by rw [lv] <;> rfl, rfl, q4, by omega, by omega, by rw [ee3]; omega, by omega, by rw [ee3]; omega, z.symm.trans hg⟩
    · have hC0 : C.level = 0 := by omega
      walk_at "rd"
      cases C with
      | node _ _ _ _ => exact absurd hC0 (Nat.succ_ne_zero _)
      | leaf s0 =>
      refine rd_methR G.ob (by rfl) ?_
      walk_at "rd"
      refine ⟨a, rows, q, n1, _, rfl, G, hn1, by omega, ?_⟩
      have e : s0 = S.get (x + S.half) (y + S.half) := hg
      rw [e]
      exact kv
end
end JF

/-! ### law k84: strips, what a field has -/
namespace JF
open PySem PySem.Spec PyProof.Rows L2
theorem cellsS_sum : ∀ {l : List Strip}, (∀ s ∈ l, 0 ≤ s.2.2.1) → (((cellsS l).length : Nat) : Int) = (l.map (·.2.2.1)).sum
  | [], _ => rfl
  | s :: l, h => by
    have ih := cellsS_sum fun t m => h t (List.mem_cons_of_mem _ m)
    have h0 := h s List.mem_cons_self
    rw [cellsS_cons, List.length_append, List.length_map, List.length_range, List.map_cons, List.sum_cons, ← ih]
    omega
theorem cellsS_three {l : List Strip} : ∀ x ∈ cellsS l, x.length = 3 := fun x m => by
  obtain ⟨s, _, u, v, _, e⟩ := mem_cellsS.mp m
  rw [e]; rfl
theorem cellsS_take (l : List Strip) (i : Nat) : (cellsS (l.take i)).length ≤ (cellsS l).length := by
  have e : cellsS l = cellsS (l.take i) ++ cellsS (l.drop i) := by rw [← cellsS_app, List.take_append_drop]
  rw [e, List.length_append]
  omega
def rowY (s : Strip) : List Int := [s.2.1, s.1, s.2.2.1, s.2.2.2]
theorem letterB {c : Nat} (h : c ∈ signs9) (h1 : c ≠ 47) (h2 : c ≠ 46) : ∃ rest, Builtin.Str.occurrences (Str.ofString "ABCDEFG") (tx [c]) 0 (Str.ofString "ABCDEFG").length 1 = (c - 65) :: rest ∧ 65 ≤ c := by
  simp only [signs9, List.mem_cons, List.not_mem_nil, or_false] at h
  rcases h with rfl | rfl | rfl | rfl | rfl | rfl | rfl | rfl | rfl
  · exact absurd rfl h2
  · exact ⟨[], by decide +kernel⟩
  · exact ⟨[], by decide +kernel⟩
  · exact ⟨[], by decide +kernel⟩
  · exact ⟨[], by decide +kernel⟩
  · exact ⟨[], by decide +kernel⟩
  · exact ⟨[], by decide +kernel⟩
  · exact ⟨[], by decide +kernel⟩
  · exact absurd rfl h1
section
variable {P : Program} {w : World} {K : PySem.W.Frag} {mg : Str → Option Value} {base : Heap}
def sp_stripsR : Sp := fun vs H Q _ => ∃ (left top : Int) (p : Addr) (rs : List Rn), vs = [.int left, .int top, .ref p] ∧ RnL H p rs ∧ (∀ r ∈ rs, RnW r) ∧ rs.length ≤ 900 ∧
  ∀ H' u, Same H H' → H u = none → TL H' u ((strips left left top rs).map rowY) → Q (.ref u) H'
set_option maxHeartbeats 8000000 in
theorem ok_stripsR (T : Env fa fn K mg) : Good P w K mg base CX0 1 ("_law_strips", none) ["_law_left", "_law_top", "_law_runs_here"] sp_stripsR := by
  refine good_mk T 52 (d := d_w_strips) (N := ["_law_left", "_law_top", "_law_runs_here", "_law_strips_here", "_law_x", "_law_y", "_law_amount", "_law_sign"]) (ps := ["_law_left", "_law_top", "_law_runs_here"]) rfl rfl sc_w_strips (fun _ _ _ _ _ _ us hl => match us, hl with | [_, _, _], _ => rfl) (fun vs H Q E h => ?_) (fun f cdv A outer σ0 H vs Q E hr h => ?_)
  · obtain ⟨left, top, p, l, rfl, _⟩ := h; rfl
  · obtain ⟨left, top, p, l, rfl, ⟨ts, hp, hT⟩, hok, hl, k⟩ := h
    have lts := hT.1
    obtain ⟨SS, hSS⟩ : ∃ SS, SS = strips left left top l := ⟨_, rfl⟩
    have hSl : SS.length ≤ 900 := by rw [hSS]; exact Nat.le_trans strips_len hl
    rw [← hSS] at k
    refine ⟨_, (pss_cons (ps_set (i := 3) sc_w_strips.nd rfl (Or.inl rfl) (pe_lst pa_nil))
      (pss_cons (ps_set (i := 4) sc_w_strips.nd rfl (Or.inl rfl) (pv 0))
      (pss_cons (ps_set (i := 5) sc_w_strips.nd rfl (Or.inl rfl) (pv 1))
      (pss_cons (ps_for PassesOwn.never rfl (pi_listK K rfl (pv 2)) (pg_tup rfl (pgs_cons (pg_name (i := 6) sc_w_strips.nd rfl (Or.inl rfl)) (pgs_cons (pg_name (i := 7) sc_w_strips.nd rfl (Or.inl rfl)) pgs_nil))) (pss_one (ps_if (pt_cmpR op_eq (pv 7) pe_str (nomark _)) (pss_cons (ps_set (i := 4) sc_w_strips.nd rfl (Or.inl rfl) (pv 0))
      (pss_one (ps_set (i := 5) sc_w_strips.nd rfl (Or.inl rfl) (pe_op op_add (pv 5) (pv 6))))) (pss_cons (ps_if (pt_cmpR op_ne (pv 7) pe_str (nomark _)) (pss_one (ps_expr (pe_bm PySem.F.plainAttrs_list PySem.F.slot_list_append PySem.F.type_list_append mt_append (pv 3) (pa_cons (pe_tup (pa_cons (pv 5) (pa_cons (pv 4) (pa_cons (pv 6) (pa_cons (pe_op op_add (pe_m1 PySem.F.slot_str_index PySem.F.type_str_index mt_sindex pe_str (pv 7)) pe_int) pa_nil))))) pa_nil)))) pss_nil)
      (pss_one (ps_set (i := 4) sc_w_strips.nd rfl (Or.inl rfl) (pe_op op_add (pv 4) (pv 6))))))))
      (pss_one (ps_ret (pv 3))))))), ?_⟩
    walk_at "rd"
    refine rd_new (hn := by show 0 ≤ sizeLine; decide) fun u hu => ?_
    have s0 := same_upd (o := HO.lst []) hu
    have T0 : TL (upd H u (HO.lst [])) u (([] : List Strip).map rowY) := ⟨[], upd_same, trivial⟩
    generalize upd H u (HO.lst []) = H0 at *
    walk_at "rd"
    refine ⟨p, rfl, ⟨_, SqL.of (s0 _ _ hp)⟩, ?_⟩
    refine for_it (walk_list (xs := ts.map V.ref)) (fun i σ H' => ∃ (x y : Int) (d : List Strip) (x6 x7 : Option V), σ = [some (.int left), some (.int top), some (.ref p), some (.ref u), some (.int x), some (.int y), x6, x7] ∧ Same H H' ∧ TL H' u (d.map rowY) ∧ d ++ strips left x y (l.drop i) = SS) ⟨left, top, [], none, none, rfl, s0, T0, by rw [hSS]; rfl⟩ (fun i σ H' _ ⟨_, _, _, _, _, _, s, _⟩ => SqL.of (s _ _ hp)) ?_ ?_
    · rintro i v σ Ha Hb hi ⟨x, y, d, x6, x7, rfl, s1, ⟨rs1, r1, r2⟩, hd⟩ ⟨rfl, hv⟩
      have hi1 : i < ts.length := by rw [List.length_map] at hi; exact hi
      have hi2 : i < l.length := by omega
      rw [List.getElem?_map, at_get hi1] at hv
      cases hv
      have hr := at_get hi2
      have hx2 := hT.2 i _ _ (at_get hi1) hr
      have hwr := hok _ (List.mem_of_getElem? hr)
      have hdr : l.drop i = l[i] :: l.drop (i + 1) := List.drop_eq_getElem_cons hi2
      rw [hdr] at hd
      generalize l[i] = r at *
      obtain ⟨n, c⟩ := r
      have ht : Hb ts[i] = some (.tup [.int (n : Int), .str (tx [c])]) := s1 _ _ hx2
      walk_at "rd"
      rw [tx_slash, tx_eq]
      refine ite_d (fun z => ?_) (fun z => ?_)
      · cases z
        rw [strips_47] at hd
        walk_at "rd"
        exact ⟨left, y + n, d, _, _, rfl, s1, ⟨rs1, r1, r2⟩, hd⟩
      have c47 : c ≠ 47 := fun e => z (by rw [e])
      walk_at "rd"
      rw [tx_dot, tx_eq]
      refine ite_nd (fun z2 => ?_) (fun z2 => ?_)
      · have c46 : c ≠ 46 := fun e => z2 (by rw [e])
        rw [strips_L c47 c46] at hd
        have dl : d.length ≤ 900 := by
          have : d.length ≤ SS.length := by rw [← hd, List.length_append]; omega
          omega
        have rl := r2.len
        rw [List.length_map] at rl
        obtain ⟨rest, ho, c65⟩ := letterB hwr.2 c47 c46
        walk_at "rd"
        refine rd_tyL r1 ?_
        walk_at "rd"
        refine rd_m1 ?_
        walk_at "rd"
        refine rd_st ?_
        walk_at "rd"
        refine ⟨_, _, _, _, rfl, rfl, ho, ?_⟩
        walk_at "rd"
        rw [show (((c - 65 : Nat)) : Int) + 1 = (c : Int) - 64 by omega]
        refine rd_new (hn := by show 4 ≤ sizeLine; decide) fun t ht' => ?_
        have s3 := same_upd (o := HO.tup [V.int y, V.int x, V.int (n : Int), V.int ((c : Int) - 64)]) ht'
        have U3 : (upd Hb t (HO.tup [V.int y, V.int x, V.int (n : Int), V.int ((c : Int) - 64)])) t = some (.tup ((rowY (x, y, (n : Int), (c : Int) - 64)).map V.int)) := upd_same
        have w1' := s3 _ _ r1
        have w2' := r2.keep (Tup.of s3)
        have s13 := s1.trans s3
        generalize upd Hb t (HO.tup [V.int y, V.int x, V.int (n : Int), V.int ((c : Int) - 64)]) = H3 at *
        walk_at "rd"
        refine rd_append w1' (by rw [List.length_map]; exact small1000 (by omega)) ?_
        walk_at "rd"
        refine ⟨x + n, y, d ++ [(x, y, (n : Int), (c : Int) - 64)], _, _, rfl, Same.putW s13 hu, ⟨rs1 ++ [t], by rw [upd_same, List.map_append]; rfl, ?_⟩, by rw [List.append_assoc]; exact hd⟩
        rw [List.map_append]
        exact (TR.app U3 w2').keep (Tup.put w1' _)
      · cases z2
        rw [strips_46] at hd
        walk_at "rd"
        exact ⟨x + n, y, d, _, _, rfl, s1, ⟨rs1, r1, r2⟩, hd⟩
    · rintro σ H1 ⟨x, y, d, x6, x7, rfl, s1, T1, hd⟩
      rw [List.length_map, lts, List.drop_length] at hd
      have hd' : d = SS := by rw [← hd]; exact (List.append_nil _).symm
      subst hd'
      walk_at "rd"
      exact k H1 u s1 hu T1
def sp_leavesY : Sp := fun vs H Q _ => ∃ (p : Addr) (l : List Strip), vs = [.ref p] ∧ TL H p (l.map rowY) ∧ (∀ s ∈ l, 1 ≤ s.2.2.1) ∧ ∀ b, (b = true ↔ ∃ s ∈ l, ¬ StripIn s) → Q (.bl b) H
theorem ok_leavesY (T : Env fa fn K mg) : Good P w K mg base CX0 1 ("_law_leaves", none) ["_law_strips_here"] sp_leavesY := by
  refine good_mk T 53 (d := d_w_leaves) (N := ["_law_strips_here", "_law_y", "_law_x", "_law_amount", "_law_state"]) (ps := ["_law_strips_here"]) rfl rfl sc_w_leaves (fun _ _ _ _ _ _ us hl => match us, hl with | [_], _ => rfl) (fun vs H Q E h => ?_) (fun f cdv A outer σ0 H vs Q E hr h => ?_)
  · obtain ⟨p, l, rfl, _⟩ := h; rfl
  · obtain ⟨p, l, rfl, ⟨ts, hp, hT⟩, h1, k⟩ := h
    have lts := hT.len
    rw [List.length_map] at lts
    refine ⟨_, (pss_cons (ps_for PassesOwn.never rfl (pi_listK K rfl (pv 0)) (pg_tup rfl (pgs_cons (pg_name (i := 1) sc_w_leaves.nd rfl (Or.inl rfl)) (pgs_cons (pg_name (i := 2) sc_w_leaves.nd rfl (Or.inl rfl)) (pgs_cons (pg_name (i := 3) sc_w_leaves.nd rfl (Or.inl rfl)) (pgs_cons (pg_name (i := 4) sc_w_leaves.nd rfl (Or.inl rfl)) pgs_nil))))) (pss_one (ps_if (PW.pt (pw_or (pt_cmpR op_lt (pe_callB (call_min2 rfl) (by rfl) (T.free 8) (by decide +kernel) (pa_cons (pv 2) (pa_cons (pv 1) pa_nil))) (pe_un un_neg (pe_op op_shl pe_int pe_int)) (nomark _)) (pw_or1 (pt_cmpR op_gt (pe_callB (call_max2 rfl) (by rfl) (T.free 9) (by decide +kernel) (pa_cons (pe_op op_add (pv 2) (pv 3)) (pa_cons (pe_op op_add (pv 1) pe_int) pa_nil))) (pe_op op_shl pe_int pe_int) (nomark _))))) (pss_one (ps_ret pe_bl)) pss_nil)))
      (pss_one (ps_ret pe_bl))), ?_⟩
    walk_at "rd"
    refine ⟨p, rfl, ⟨_, SqL.of hp⟩, ?_⟩
    refine for_it (walk_list (xs := ts.map V.ref)) (fun i σ H' => H' = H ∧ (∀ t ∈ l.take i, StripIn t) ∧ ∃ x1 x2 x3 x4 : Option V, σ = [some (.ref p), x1, x2, x3, x4]) ⟨rfl, (fun t m => by simp at m), none, none, none, none, rfl⟩ (fun i σ H' _ h => by rw [h.1]; exact SqL.of hp) ?_ ?_
    · rintro i v σ Ha Hb hi ⟨rfl, hno, x1, x2, x3, x4, rfl⟩ ⟨rfl, hv⟩
      have hi1 : i < ts.length := by rw [List.length_map] at hi; exact hi
      have hi2 : i < l.length := by omega
      rw [List.getElem?_map, at_get hi1] at hv
      cases hv
      have hr := at_get hi2
      obtain ⟨xr, hx1, hx2⟩ := hT.get (at_get hi1)
      rw [List.getElem?_map, hr] at hx1
      cases hx1
      have hm := List.mem_of_getElem? hr
      have h1m := h1 _ hm
      have snoc := take_snoc hr
      generalize l[i] = s at *
      obtain ⟨x, y, n, st⟩ := s
      dsimp only at h1m
      have ht : Hb ts[i] = some (.tup [.int y, .int x, .int n, .int st]) := hx2
      have e40 : (1 : Int) * 2 ^ Int.toNat 40 = 1099511627776 := by decide
      walk_at "rd"
      refine rd_I (by refine ⟨by decide, by decide, by decide⟩) ?_
      rw [e40]
      walk_at "rd"
      refine ite_d (fun c1 => ?_) (fun c1 => ?_)
      · walk_at "rd"
        refine k true ⟨fun _ => ⟨_, hm, fun z => ?_⟩, fun _ => rfl⟩
        unfold StripIn at z
        dsimp only at z
        split at c1 <;> omega
      · walk_at "rd"
        refine rd_I (by refine ⟨by decide, by decide, by decide⟩) ?_
        rw [e40]
        walk_at "rd"
        refine ite_d (fun c2 => ?_) (fun c2 => ?_)
        · walk_at "rd"
          refine k true ⟨fun _ => ⟨_, hm, fun z => ?_⟩, fun _ => rfl⟩
          unfold StripIn at z
          dsimp only at z
          split at c2 <;> omega
        · walk_at "rd"
          refine ⟨rfl, fun t m => ?_, _, _, _, _, rfl⟩
          rw [snoc] at m
          rcases List.mem_append.mp m with m | m
          · exact hno t m
          · rw [List.mem_singleton] at m
            subst m
            unfold StripIn
            dsimp only
            split at c1 <;> split at c2 <;> omega
    · rintro σ H' ⟨rfl, hno, x1, x2, x3, x4, rfl⟩
      rw [List.length_map, lts, List.take_length] at hno
      walk_at "rd"
      exact k false ⟨(fun z => by cases z), fun ⟨t, m, o⟩ => absurd (hno t m) o⟩
def sp_has (C : Addr) : Sp := fun vs H Q _ => ∃ (a : GA) (rows : List (Int × Addr)) (q : List Sq) (m : Nat) (S : Sq) (p : Addr) (l : List Strip), vs = [.ref a.g, .int (m : Int), .ref p] ∧ GAt C H a rows q ∧ q[m]? = some S ∧ S.Least ∧ 1 ≤ S.level ∧ S.level ≤ 41 ∧ q.length ≤ 15000000 ∧ TL H p (l.map rowY) ∧ (∀ s ∈ l, 1 ≤ s.2.2.1 ∧ 1 ≤ s.2.2.2 ∧ s.2.2.2 ≤ 7 ∧ StripIn s) ∧ l.Pairwise SLt ∧ l.length ≤ 40 ∧ (∀ x y, S.val x y = layS (fun _ _ => 0) l x y) ∧
  ∀ H', Same H H' → Q (.bl true) H'
set_option maxHeartbeats 16000000 in
theorem ok_has (T : Env fa fn K mg) : Good P w K mg base CX0 98 ("_law_has", none) ["_law_grove", "_law_found", "_law_strips_here"] (sp_has (CG K)) := by
  have G_w_is_field := ok_is_field (P := P) (w := w) (base := base) T
  have G_w_count := ok_count (P := P) (w := w) (base := base) T 45
  have G_w_state_at := ok_state_at (P := P) (w := w) (base := base) T
  have G_w_walked := ok_walked (P := P) (w := w) (base := base) T
  refine good_mk T 54 (d := d_w_has) (N := ["_law_grove", "_law_found", "_law_strips_here", "_law_known", "_law_many", "_law_y", "_law_x", "_law_amount", "_law_state", "_law_cells", "_law_strip", "_law_k"]) (ps := ["_law_grove", "_law_found", "_law_strips_here"]) rfl rfl sc_w_has (fun _ _ _ _ _ _ us hl => match us, hl with | [_, _, _], _ => rfl) (fun vs H Q E h => ?_) (fun f cdv A outer σ0 H vs Q E hr h => ?_)
  · obtain ⟨a, rows, q, m, S, p, l, rfl, _⟩ := h; rfl
  · obtain ⟨a, rows, q, m, S, p, l, rfl, G, hn, hL, l1, l41, hq, ⟨ts, hp, hT⟩, hst, pw, hl, hv, k⟩ := h
    have hsz := sizeBig
    have lts := hT.len
    rw [List.length_map] at lts
    have wS := G.wf _ (List.mem_of_getElem? hn)
    have pm := cellsS_perm pw (fun s m => by have := (hst s m).2.1; omega) wS l1 hv
    have lvv : S.lives = (l.map (·.2.2.1)).sum := by
      have e := wi_len S (-S.half) (-S.half)
      have e3 : (wi S (-S.half) (-S.half)).length = (cellsS l).length := pm.length_eq.symm
      rw [← e, e3]
      exact cellsS_sum fun s m => by have := (hst s m).1; omega
    refine ⟨_, (pss_cons (ps_set (i := 3) sc_w_has.nd rfl (Or.inl rfl) pe_dnewK)
      (pss_cons (ps_set (i := 4) sc_w_has.nd rfl (Or.inl rfl) (pe_callB (cr_sumK K rfl rfl) (by rfl) (T.free 56) (by decide +kernel) (pa_cons (pe_lc (own := [("_law_strip", 10)]) (tt := tYes) rfl sc_w_has.nd (pi_listK K rfl (pv 2)) (blkOk_by (own := [("_law_strip", 10)]) (N := ["_law_grove", "_law_found", "_law_strips_here", "_law_known", "_law_many", "_law_y", "_law_x", "_law_amount", "_law_state", "_law_cells", "_law_strip", "_law_k"]) (sc := defScope st_w_has) (by decide +kernel)) (fun _ _ _ _ _ => by exact (pg_name (i := 10) sc_w_has.nd rfl (Or.inl rfl))) (fun _ _ _ _ _ => by exact pts_nil) (fun _ _ _ _ _ => by exact (pe_ix (ix_tupK K rfl) (pv 10) pe_int (fun _ _ => rfl)))) pa_nil)))
      (pss_cons (ps_if (PW.pt (pw_or (pt_not (pt_val (pe_cgK K rfl G_w_is_field (hr.mono (by decide)) (T.glo 59) (pa_cons (pv 0) (pa_cons (pv 1) (pa_cons (pv 3) pa_nil)))))) (pw_or1 (pt_cmpR op_ne (pe_cgK K rfl G_w_count (hr.mono (by decide)) (T.glo 55) (pa_cons (pv 0) (pa_cons (pv 1) (pa_cons (pv 3) pa_nil)))) (pv 4) (nomark _))))) (pss_one (ps_ret pe_bl)) pss_nil)
      (pss_cons (ps_for PassesOwn.never rfl (pi_listK K rfl (pv 2)) (pg_tup rfl (pgs_cons (pg_name (i := 5) sc_w_has.nd rfl (Or.inr rfl)) (pgs_cons (pg_name (i := 6) sc_w_has.nd rfl (Or.inr rfl)) (pgs_cons (pg_name (i := 7) sc_w_has.nd rfl (Or.inl rfl)) (pgs_cons (pg_name (i := 8) sc_w_has.nd rfl (Or.inr rfl)) pgs_nil))))) (pss_one (ps_if (PW.pt (pw_or (pt_cmpR op_ne (pe_cgK K rfl G_w_state_at (hr.mono (by decide)) (T.glo 64) (pa_cons (pv 0) (pa_cons (pv 1) (pa_cons (pv 6) (pa_cons (pv 5) pa_nil))))) (pv 8) (nomark _)) (pw_or1 (pt_cmpR op_ne (pe_cgK K rfl G_w_state_at (hr.mono (by decide)) (T.glo 64) (pa_cons (pv 0) (pa_cons (pv 1) (pa_cons (pe_op op_sub (pe_op op_add (pv 6) (pv 7)) pe_int) (pa_cons (pv 5) pa_nil))))) (pv 8) (nomark _))))) (pss_one (ps_ret pe_bl)) pss_nil)))
      (pss_cons (ps_if (pt_cmpR op_gt (pv 4) pe_int (nomark _)) (pss_one (ps_ret pe_bl)) pss_nil)
      (pss_cons (ps_set (i := 9) sc_w_has.nd rfl (Or.inl rfl) (pe_lst pa_nil))
      (pss_cons (ps_for PassesOwn.never rfl (pi_listK K rfl (pv 2)) (pg_tup rfl (pgs_cons (pg_name (i := 5) sc_w_has.nd rfl (Or.inr rfl)) (pgs_cons (pg_name (i := 6) sc_w_has.nd rfl (Or.inr rfl)) (pgs_cons (pg_name (i := 7) sc_w_has.nd rfl (Or.inl rfl)) (pgs_cons (pg_name (i := 8) sc_w_has.nd rfl (Or.inr rfl)) pgs_nil))))) (pss_one (ps_set (i := 9) sc_w_has.nd rfl (Or.inl rfl) (pe_op op_cat (pv 9) (pe_lc (own := [("_law_k", 11)]) (tt := tYes) rfl sc_w_has.nd (pi_range1 (by rfl) (T.free 65) (pa_cons (pv 7) pa_nil)) (blkOk_by (own := [("_law_k", 11)]) (N := ["_law_grove", "_law_found", "_law_strips_here", "_law_known", "_law_many", "_law_y", "_law_x", "_law_amount", "_law_state", "_law_cells", "_law_strip", "_law_k"]) (sc := defScope st_w_has) (by decide +kernel)) (fun _ _ _ _ _ => by exact (pg_name (i := 11) sc_w_has.nd rfl (Or.inl rfl))) (fun _ _ _ _ _ => by exact pts_nil) (fun _ _ _ _ _ => by exact (pe_tup (pa_cons (pv 5) (pa_cons (pe_op op_add (pv 6) (pv 11)) (pa_cons (pv 8) pa_nil))))))))))
      (pss_one (ps_ret (pe_cmpR (op_eqDK K rfl hr.units) (pe_cgK K rfl G_w_walked (hr.mono (by decide)) (T.glo 66) (pa_cons (pv 0) (pa_cons (pv 1) pa_nil))) (pe_callB (cr_sortTLK K rfl) (by rfl) (T.free 60) (by decide +kernel) (pa_cons (pv 9) pa_nil)) (nomark _))))))))))), ?_⟩
    walk_at "rd"
    intro pk hpk
    have s1 := same_upd (o := HO.dK []) hpk
    have D1 : (upd H pk (HO.dK [])) pk = some (.dK []) := upd_same
    have out := G.new_out hpk
    have G1 := G.same s1
    have hp1 := s1 _ _ hp
    have hT1 := hT.keep (Tup.of s1)
    generalize upd H pk (HO.dK []) = H1 at *
    walk_at "rd"
    refine ⟨p, rfl, ⟨_, SqL.of hp1⟩, fun D9 hD9 => ?_⟩
    refine lc_it (walk_list (xs := ts.map V.ref)) (fun i H' => Same H1 H' ∧ H' D9 = some (.lst (((l.take i).map (·.2.2.1)).map V.int))) ⟨same_upd hD9, upd_same⟩ (fun i H' _ h => SqL.of (h.1 _ _ hp1)) ?_ ?_
    · rintro i v Ha Hb hi ⟨s10, LD⟩ ⟨rfl, hv⟩
      have hi1 : i < ts.length := by rw [List.length_map] at hi; exact hi
      have hi2 : i < l.length := by omega
      rw [List.getElem?_map, at_get hi1] at hv
      cases hv
      have hr' := at_get hi2
      obtain ⟨xr, hx1, hx2⟩ := hT1.get (at_get hi1)
      rw [List.getElem?_map, hr'] at hx1
      cases hx1
      have snoc := take_snoc hr'
      generalize l[i] = s at *
      obtain ⟨sx, sy, sn, st⟩ := s
      have ht : Hb ts[i] = some (.tup [.int sy, .int sx, .int sn, .int st]) := s10 _ _ hx2
      walk_at "rd"
      refine ⟨rfl, ?_⟩
      walk_at "rd"
      refine ⟨_, LD, by rw [List.length_map, List.length_map, List.length_take]; exact small1000 (by omega), Same.putW s10 hD9, ?_⟩
      rw [upd_same, snoc, List.map_append, List.map_append]
      rfl
    rintro H2 ⟨s2, LD⟩
    rw [List.length_map, lts, List.take_length] at LD
    have G2 := G1.same s2
    have D2 := s2 _ _ D1
    have hp2 := s2 _ _ hp1
    have hT2 := hT1.keep (Tup.of s2)
    walk_at "rd"
    refine ⟨D9, _, rfl, SqL.of LD, ?_⟩
    rw [← lvv]
    walk_at "rd"
    have s02 := s1.trans s2
    refine ⟨a, rows, q, m, S, pk, [], rfl, G2, hn, hL, by omega, hq, D2, out, KQ.nil, fun H3 k3 f3 D3 K3 => ?_⟩
    have G3 := G2.but f3 D2 out
    have b3 : But pk H H3 := (But.of s02).trans f3
    walk_at "rd"
    refine ⟨a, rows, q, m, S, pk, k3, rfl, G3, hn, by omega, hq, D3, out, K3, fun H4 k4 f4 D4 K4 => ?_⟩
    have G4 := G3.but f4 D3 out
    have s04 : Same H H4 := (b3.trans f4).same hpk
    have hp4 := s04 _ _ hp
    have hT4 := hT.keep (Tup.of s04)
    clear hp1 hT1 hp2 hT2 LD
    walk_at "rd"
    rw [decide_eq_true rfl]
    walk_at "rd"
    refine ⟨p, rfl, ⟨_, SqL.of hp4⟩, ?_⟩
    refine for_it (walk_list (xs := ts.map V.ref)) (fun i σ H' => H' = H4 ∧ ∃ x5 x6 x7 x8 : Option V, σ = [some (.ref a.g), some (.int (m : Int)), some (.ref p), some (.ref pk), some (.int S.lives), x5, x6, x7, x8, none, none, none]) ⟨rfl, none, none, none, none, rfl⟩ (fun i σ H' _ h => by rw [h.1]; exact SqL.of hp4) ?_ ?_
    · rintro i v σ Ha Hb hi ⟨rfl, x5, x6, x7, x8, rfl⟩ ⟨rfl, hv'⟩
      have hi1 : i < ts.length := by rw [List.length_map] at hi; exact hi
      have hi2 : i < l.length := by omega
      rw [List.getElem?_map, at_get hi1] at hv'
      cases hv'
      have hr := at_get hi2
      obtain ⟨xr, hx1, hx2⟩ := hT4.get (at_get hi1)
      rw [List.getElem?_map, hr] at hx1
      cases hx1
      have hm := List.mem_of_getElem? hr
      have hsm := hst _ hm
      have hlay := layS_in l (fun _ _ => 0)
      have v1 : S.val l[i].1 l[i].2.1 = l[i].2.2.2 := by
        rw [hv]
        exact hlay _ _ pw _ hm ⟨by omega, by omega, by omega, by omega⟩
      have v2 : S.val (l[i].1 + l[i].2.2.1 - 1) l[i].2.1 = l[i].2.2.2 := by
        rw [hv]
        exact hlay _ _ pw _ hm ⟨by omega, by omega, by omega, by omega⟩
      generalize l[i] = s at *
      obtain ⟨sx, sy, sn, st⟩ := s
      dsimp only at v1 v2
      have ht : Hb ts[i] = some (.tup [.int sy, .int sx, .int sn, .int st]) := hx2
      walk_at "rd"
      refine ⟨a, rows, q, m, S, sx, sy, rfl, G4, hn, l1, by omega, by omega, ?_⟩
      walk_at "rd"
      rw [v1, decide_eq_true rfl]
      walk_at "rd"
      refine ⟨a, rows, q, m, S, sx + sn - 1, sy, rfl, G4, hn, l1, by omega, by omega, ?_⟩
      walk_at "rd"
      rw [v2, decide_eq_true rfl]
      walk_at "rd"
      exact ⟨rfl, _, _, _, _, rfl⟩
    rintro σ H5 ⟨rfl, x5, x6, x7, x8, rfl⟩
    walk_at "rd"
    refine ite_d (fun big => ?_) (fun small => ?_)
    · walk_at "rd"
      exact k H5 s04
    have lcs : (cellsS l).length ≤ 400 := by
      have e := cellsS_sum (l := l) fun s m => by have := (hst s m).1; omega
      omega
    walk_at "rd"
    refine rd_new (hn := by show 0 ≤ sizeLine; decide) fun pc hpc => ?_
    have s6 := same_upd (o := HO.lst []) hpc
    have T6 : TL (upd H5 pc (HO.lst [])) pc (cellsS (l.take 0)) := ⟨[], upd_same, trivial⟩
    generalize upd H5 pc (HO.lst []) = H6 at *
    walk_at "rd"
    refine ⟨p, rfl, ⟨_, SqL.of (s6 _ _ hp4)⟩, ?_⟩
    refine for_it (walk_list (xs := ts.map V.ref)) (fun i σ H' => ∃ (pd : Addr) (x5 x6 x7 x8 : Option V), σ = [some (.ref a.g), some (.int (m : Int)), some (.ref p), some (.ref pk), some (.int S.lives), x5, x6, x7, x8, some (.ref pd), none, none] ∧ Same H5 H' ∧ H5 pd = none ∧ TL H' pd (cellsS (l.take i))) ⟨pc, x5, x6, x7, x8, rfl, s6, hpc, T6⟩ (fun i σ H' _ ⟨_, _, _, _, _, _, s, _⟩ => SqL.of (s _ _ hp4)) ?_ ?_
    · rintro i v σ Ha Hb hi ⟨pd, x5, x6, x7, x8, rfl, s7, hpd, ⟨us, u1, u2⟩⟩ ⟨rfl, hv'⟩
      have hi1 : i < ts.length := by rw [List.length_map] at hi; exact hi
      have hi2 : i < l.length := by omega
      rw [List.getElem?_map, at_get hi1] at hv'
      cases hv'
      have hr := at_get hi2
      obtain ⟨xr, hx1, hx2⟩ := hT4.get (at_get hi1)
      rw [List.getElem?_map, hr] at hx1
      cases hx1
      have hm := List.mem_of_getElem? hr
      have hsm := hst _ hm
      have c1 := cellsS_take l (i + 1)
      have snoc := take_snoc hr
      rw [snoc, cellsS_app, List.length_append, cellsS_cons, cellsS_nil, List.append_nil, List.length_map, List.length_range] at c1
      generalize l[i] = s at *
      obtain ⟨sx, sy, sn, st⟩ := s
      dsimp only at c1 hsm
      obtain ⟨n, hn'⟩ := nat_of (show 0 ≤ sn by omega)
      subst hn'
      rw [Int.toNat_natCast] at c1
      have ht : Hb ts[i] = some (.tup [.int sy, .int sx, .int (n : Int), .int st]) := s7 _ _ hx2
      walk_at "rd"
      refine ⟨(n : Int), rfl, by omega, by omega, fun D hD => ?_⟩
      rw [Int.toNat_natCast]
      refine lc_it (walk_r0 (n := n)) (fun j H' => Same Hb H' ∧ TL H' D ((List.range j).map fun k : Nat => [sy, sx + (k : Int), st])) ⟨same_upd hD, [], upd_same, trivial⟩ (fun _ _ _ _ => trivial) ?_ ?_
      · rintro j v Hc Hd hj ⟨s8, rs, r1, r2⟩ ⟨rfl, rfl⟩
        have rl := r2.len
        rw [List.length_map, List.length_range] at rl
        walk_at "rd"
        refine ⟨rfl, ?_⟩
        walk_at "rd"
        refine rd_new (hn := by show 3 ≤ sizeLine; decide) fun u hu' => ?_
        have s9 := same_upd (o := HO.tup [V.int sy, V.int (sx + (j : Int)), V.int st]) hu'
        have U9 : (upd Hd u (HO.tup [V.int sy, V.int (sx + (j : Int)), V.int st])) u = some (.tup (([sy, sx + (j : Int), st] : List Int).map V.int)) := upd_same
        have r1' := s9 _ _ r1
        have r2' := r2.keep (Tup.of s9)
        have s89 := s8.trans s9
        generalize upd Hd u (HO.tup [V.int sy, V.int (sx + (j : Int)), V.int st]) = H9 at *
        refine ⟨_, r1', by rw [List.length_map]; exact small1000 (by omega), Same.putW s89 hD, rs ++ [u], by rw [upd_same, List.map_append]; rfl, ?_⟩
        rw [List.range_succ, List.map_append]
        exact (TR.app U9 r2').keep (Tup.put r1' _)
      rintro H8 ⟨s8, rs, r1, r2⟩
      have rl := r2.len
      have ul := u2.len
      rw [List.length_map, List.length_range] at rl
      have u1' := s8 _ _ u1
      have u2' := u2.keep (Tup.of s8)
      have s78 := s7.trans s8
      walk_at "rd"
      refine ⟨pd, D, _, _, rfl, rfl, u1', r1, by rw [List.length_map, List.length_map, ul, rl]; exact Nat.le_trans (by omega) (Nat.le_of_lt hsz), fun p6 hp6 => ?_⟩
      have s9 := same_upd (o := HO.lst (us.map V.ref ++ rs.map V.ref)) hp6
      walk_at "rd"
      refine ⟨p6, _, _, _, _, rfl, s78.trans s9, none_ofW s78 hp6, us ++ rs, by rw [upd_same, List.map_append], ?_⟩
      rw [snoc, cellsS_app, cellsS_cons, cellsS_nil, List.append_nil]
      exact (u2'.cat r2).keep (Tup.of s9)
    rintro σ H7 ⟨pd, x5, x6, x7, x8, rfl, s7, hpd, T7⟩
    rw [List.length_map, lts, List.take_length] at T7
    have G7 := G4.same s7
    walk_at "rd"
    refine ⟨a, rows, q, m, S, rfl, G7, hn, hL, by omega, hq, by omega, fun H8 u8 xs8 s8 hu8 T8 so8 pm8 => ?_⟩
    obtain ⟨us, u1, u2⟩ := T7
    walk_at "rd"
    refine ⟨pd, us, cellsS l, 3, rfl, SqL.of (s8 _ _ u1), u2.keep (Tup.of s8), by decide, cellsS_three, fun rs' ys p' pm9 so9 T9 hp9 => ?_⟩
    have s9 := same_upd (o := HO.lst (rs'.map V.ref)) hp9
    have T9' : TL (upd H8 p' (HO.lst (rs'.map V.ref))) p' ys := ⟨rs', upd_same, T9.keep (Tup.of s9)⟩
    have e9 := srtL_eq so8 so9 (pm8.trans (pm.symm.trans pm9.symm))
    subst e9
    refine rd_eqTL (T8.same s9) T9' ?_
    rw [decide_eq_true rfl]
    exact k _ (s04.trans (s7.trans (s8.trans s9)))
end
end JF

/-! ### what is no text, beside a text: x != text for lists, tuples, an empty dict -/
namespace JF
open PySem PySem.Spec PyProof.Rows L2 PySem.MeetsSeq PySem.SeqAt
theorem str_ne_declines_dict (b : Str) (u : Tok) (l : Addr) (o : Obj) (es : Array DictEntry) (ep : Nat) (hc : o.cls = .type "dict") (hd : o.data = .dict es ep) :
    Meets (Builtin.«str.__ne__» ⟨[.str b u, .ref l], []⟩) (fun _ R s => s.heap.get? l = some o ∧ R (.ok (.ret .notImplemented)) s) :=
  .of_wp fun prog w A R s h => by
    obtain ⟨hp, g, d, tk, os⟩ := s
    obtain ⟨hl, h⟩ := h
    obtain ⟨cls, dd, data, sl⟩ := o
    simp only at hc hd
    subst hc hd
    wp_walk using wpAny_loadPart' hl, wpAny_load hl
    exact ⟨_, rfl, h⟩
section
variable {prog : Program} {w : World} {A : Around} {E : Value → Shared → Prop} {s : Shared}
theorem ne_dict_str {K : Type} [DecidableEq K] {knd : KeyKind prog w K} {a : Addr} {ka : List (K × Value)} {b : Str} {u : Tok} {Q : Value → Shared → Prop} (da : s.heap.DictOf knd a ka) (hu : A.units < cLine) (h : Q (.bool true) s) :
    wpAny (model prog w) A (compareOp .NotEq (.ref a) (.str b u)) Q E s := by
  obtain ⟨o, es, ep, ho, ex, hd, _⟩ := id da
  show wpAny _ A (richCompare .NotEq _ _) Q E s
  refine rc_ne_decline_or (k := false) da.typeIs (typeIs_str s b u) (by decide) F.sub_str_dict F.slot_dict_ne F.slot_str_ne_refl (fun Q' hq => ?_) (fun Q' hq => ?_) (fun _ hq => wpAny_of_eq (rfl : isSame (.ref a) (.str b u) = pure false) hq) (.inr hu) h
  · refine wpAny_call_entry PySem.F.slot_dict_ne da.typeIs PySem.F.entry_dict_ne ?_ (PySem.F.args_dict_ne_2 _ _)
    show wpAny _ _ (Builtin.Dict.dictSlotArgs "__ne__" ⟨[.ref a, .str b u], []⟩ >>= _) _ _ s
    refine wpAny_bind ?_
    unfold Builtin.Dict.dictSlotArgs
    refine wpAny_bind (wpAny_notOrdered_dict da.typeIs ?_)
    show wpAny _ _ (pure (Value.ref a, Value.str b u)) _ _ s
    refine wpAny_pure ?_
    refine wpAny_bind (wpAny_isInstance (T := "str") (typeIs_str s b u) PySem.F.sub_str_dict ?_)
    simp only [Bool.not_false, if_true]
    refine wpAny_bind (wpAny_rule ?_)
    exact wpAny_pure ⟨_, rfl, hq⟩
  · exact call_meets F.slot_str_ne_refl (typeIs_str s b u) F.entry_str_ne (F.args_str_ne_2 _ _) (str_ne_declines_dict b u a o es ep ex.1 hd) ⟨ho, hq⟩
end
section
variable {X : Cx}
def rNeX (K : PySem.W.Frag) : R2 := fun x y H Q => (∃ p z, x = .ref p ∧ H p = some (.dK []) ∧ y = .str z ∧ Q (.bl true) H) ∨ rNeD K x y H Q
theorem op_neX (K : PySem.W.Frag) (hK : X.K = K) (hu : X.A.units + 64 < cLine) : OpR X (compareOp .NotEq) (rNeX K) := by
  subst hK
  intro pins s σ H x y v u Q I rx ry h
  rcases h with ⟨p, z, rfl, hp, rfl, q⟩ | h
  · obtain rfl : v = Value.ref p := rx
    obtain ⟨t, rfl⟩ := ry
    obtain ⟨_, ya, va, ra, da⟩ := (show ObjOk X.prog X.w H s.heap p (.dK []) from I.hok p _ hp)
    exact ne_dict_str da (by omega) ⟨.bl _, H, I, rfl, q⟩
  · exact op_neD hu _ _ _ _ _ _ _ _ _ I rx ry h
/-- a thing in the place of a text: the text, or None, 0, True, a list, a tuple, a dict -/
def ThingIs (H : Hp) (M : List Addr) (L : List Nat) (x : V) : Prop := x = .non ∨ x = .int 0 ∨ x = .bl true ∨ (∃ p, x = .ref p ∧ H p = some (.lst [.str (tx L)]) ∧ p ∉ M) ∨ (∃ p, x = .ref p ∧ H p = some (.tup [.str (tx L), .str (tx L)])) ∨ ∃ p, x = .ref p ∧ H p = some (.dK []) ∧ p ∉ M
theorem ThingIs.noTx {H : Hp} {M : List Addr} {L : List Nat} {x : V} (h : ThingIs H M L x) : NoTxE H x := by
  rcases h with rfl | rfl | rfl | ⟨p, rfl, hp, _⟩ | ⟨p, rfl, hp⟩ | ⟨p, rfl, hp, _⟩
  · exact .inr (.inr (.inl rfl))
  · exact .inl ⟨_, rfl⟩
  · exact .inr (.inl ⟨_, rfl⟩)
  · exact .inr (.inr (.inr (.inl ⟨_, _, rfl, hp⟩)))
  · exact .inr (.inr (.inr (.inr (.inl ⟨_, _, rfl, hp⟩))))
  · exact .inr (.inr (.inr (.inr (.inr ⟨_, _, rfl, hp⟩))))
theorem ThingIs.same {H H' : Hp} {M : List Addr} {L : List Nat} {x : V} (h : ThingIs H M L x) (s : Same H H') : ThingIs H' M L x := by
  rcases h with rfl | rfl | rfl | ⟨p, rfl, hp, n⟩ | ⟨p, rfl, hp⟩ | ⟨p, rfl, hp, n⟩
  · exact .inl rfl
  · exact .inr (.inl rfl)
  · exact .inr (.inr (.inl rfl))
  · exact .inr (.inr (.inr (.inl ⟨_, rfl, s _ _ hp, n⟩)))
  · exact .inr (.inr (.inr (.inr (.inl ⟨_, rfl, s _ _ hp⟩))))
  · exact .inr (.inr (.inr (.inr (.inr ⟨_, rfl, s _ _ hp, n⟩))))
theorem ThingIs.step {C : Addr} {H H' : Hp} {a : GA} {rows rows' : List (Int × Addr)} {q q' : List Sq} {L : List Nat} {x : V} (h : ThingIs H (a.muts rows) L x) (G : GAt C H a rows q) (F : FStep C H a rows q H' rows' q') : ThingIs H' (a.muts rows') L x := by
  rcases h with rfl | rfl | rfl | ⟨p, rfl, hp, n⟩ | ⟨p, rfl, hp⟩ | ⟨p, rfl, hp, n⟩
  · exact .inl rfl
  · exact .inr (.inl rfl)
  · exact .inr (.inr (.inl rfl))
  · obtain ⟨h1, h2⟩ := F.own hp n (fun _ z => by cases z)
    exact .inr (.inr (.inr (.inl ⟨_, rfl, h1, h2⟩)))
  · exact .inr (.inr (.inr (.inr (.inl ⟨_, rfl, F.tup G _ _ hp⟩))))
  · obtain ⟨h1, h2⟩ := F.own hp n (fun _ z => by cases z)
    exact .inr (.inr (.inr (.inr (.inr ⟨_, rfl, h1, h2⟩))))
def Low (L : List Nat) : Prop := ∀ c ∈ L, c < 1000
theorem Low.ok {L : List Nat} (h : Low L) : PyData.strOk (tx L) = true := by
  show L.toArray.all (· < 0x110000) = true
  simp only [List.all_toArray, List.all_eq_true, decide_eq_true_eq]
  intro c m
  have := h c m
  omega
theorem shaped_str (z : Str) (hz : PyData.strOk z = true) : SeqAt.shaped (.str z) = true := by
  unfold SeqAt.shaped
  simp [PyData.canLay0, PyData.depth, hz]
theorem shaped_L (z : Str) (hz : PyData.strOk z = true) : SeqAt.shaped (.list [.str z]) = true := by
  unfold SeqAt.shaped
  simp [PyData.canLay0, PyData.canLayAll0, PyData.depth, PyData.depthAll, hz]
theorem shaped_T (z : Str) (hz : PyData.strOk z = true) : SeqAt.shaped (.tuple [.str z, .str z]) = true := by
  unfold SeqAt.shaped
  simp [PyData.canLay0, PyData.canLayAll0, PyData.depth, PyData.depthAll, hz]
theorem shaped_N : SeqAt.shaped .none = true := by
  unfold SeqAt.shaped
  simp [PyData.canLay0, PyData.depth]
theorem shaped_I (i : Int) : SeqAt.shaped (.int i) = true := by
  unfold SeqAt.shaped
  simp [PyData.canLay0, PyData.depth]
theorem shaped_B (i : Bool) : SeqAt.shaped (.bool i) = true := by
  unfold SeqAt.shaped
  simp [PyData.canLay0, PyData.depth]
theorem shaped_IS (i : Int) (z : Str) (hz : PyData.strOk z = true) : SeqAt.shaped (.tuple [.int i, .str z]) = true := by
  unfold SeqAt.shaped
  simp [PyData.canLay0, PyData.canLayAll0, PyData.depth, PyData.depthAll, hz]
theorem ThingIs.ne {K : PySem.W.Frag} {H : Hp} {M : List Addr} {L : List Nat} {x : V} {Z : List Nat} {Q : VK} (hz : Low Z) (hl : Low L) (h : ThingIs H M L x) (q : Q (.bl true) H) : rNeX K x (.str (tx Z)) H Q := by
  rcases h with rfl | rfl | rfl | ⟨p, rfl, hp, n⟩ | ⟨p, rfl, hp⟩ | ⟨p, rfl, hp, n⟩
  · exact .inr ⟨_, _, .non, .str _, shaped_N, shaped_str _ hz.ok, by simpa [PyData.eqv] using q⟩
  · exact .inr ⟨_, _, .int _, .str _, shaped_I _, shaped_str _ hz.ok, by simpa [PyData.eqv] using q⟩
  · exact .inr ⟨_, _, .bl _, .str _, shaped_B _, shaped_str _ hz.ok, by simpa [PyData.eqv] using q⟩
  · exact .inr ⟨_, _, .lst (SqL.of hp) (.cons (.str _) .nil), .str _, shaped_L _ hl.ok, shaped_str _ hz.ok, by simpa [PyData.eqv] using q⟩
  · exact .inr ⟨_, _, .tup (SqT.of hp) (.cons (.str _) (.cons (.str _) .nil)), .str _, shaped_T _ hl.ok, shaped_str _ hz.ok, by simpa [PyData.eqv] using q⟩
  · exact .inl ⟨p, _, rfl, hp, rfl, q⟩
theorem neX_str {K : PySem.W.Frag} {H : Hp} {L : List Nat} {Q : VK} (hz : Low L) (q : Q (.bl false) H) : rNeX K (.str (tx L)) (.str (tx L)) H Q :=
  .inr ⟨_, _, .str _, .str _, shaped_str _ hz.ok, shaped_str _ hz.ok, by simpa [PyData.eqv] using q⟩
end
end JF

/-! ### law k84: what is drawn -/
namespace JF
open PySem PySem.Spec PyProof.Rows L2
def cntS (L : List Nat) : Nat := L.countP fun c => decide (c ∈ signs9)
theorem cntS_app (A B : List Nat) : cntS (A ++ B) = cntS A + cntS B := List.countP_append
theorem cntS_le (L : List Nat) : cntS L ≤ L.length := List.countP_le_length
theorem cntS_take (L : List Nat) (i : Nat) : cntS (L.take i) + cntS (L.drop i) = cntS L := by rw [← cntS_app, List.take_append_drop]
theorem cntS_zero {L : List Nat} (h : ∀ c ∈ L, c ∉ signs9) : cntS L = 0 := List.countP_eq_zero.mpr fun c m => by simpa using h c m
/-- a text: not long, few signs of runs, low signs -/
def TxW (L : List Nat) (k n : Nat) : Prop := L.length ≤ k ∧ cntS L ≤ n ∧ Low L
theorem TxW.app {A B : List Nat} {k n k' n' : Nat} (h : TxW A k n) (h' : TxW B k' n') : TxW (A ++ B) (k + k') (n + n') := ⟨by rw [List.length_append]; exact Nat.add_le_add h.1 h'.1, by rw [cntS_app]; exact Nat.add_le_add h.2.1 h'.2.1, fun c m => (List.mem_append.mp m).elim (h.2.2 c) (h'.2.2 c)⟩
theorem TxW.mono {A : List Nat} {k n k' n' : Nat} (h : TxW A k n) (hk : k ≤ k') (hn : n ≤ n') : TxW A k' n' := ⟨Nat.le_trans h.1 hk, Nat.le_trans h.2.1 hn, h.2.2⟩
theorem num_txW {L : List Nat} {k : Nat} (hl : L.length ≤ k) (h : ∀ c ∈ L, c = 45 ∨ (48 ≤ c ∧ c ≤ 57)) : TxW L k 0 := by
  refine ⟨hl, Nat.le_of_eq (cntS_zero fun c m z => ?_), fun c m => by rcases h c m with h | h <;> omega⟩
  rcases h c m with rfl | h
  · revert z; decide
  · exact sign_no z h
theorem atI_ex {α : Type} {l : List α} {k : Int} (h0 : 0 ≤ k) (h1 : k < (l.length : Int)) : ∃ x, x ∈ l ∧ atI l k = some x := by
  obtain ⟨n, rfl⟩ := nat_of h0
  have hn : n < l.length := by omega
  exact ⟨l[n], List.getElem_mem hn, atI_nat (at_get hn)⟩
theorem runs_len : ∀ {L acc : List Nat} {rs : List Rn}, runsD acc L = some rs → rs.length ≤ cntS L
  | [], acc, rs, h => by
    rw [runsD_nil] at h
    split at h
    · cases h; exact Nat.zero_le _
    · cases h
  | d :: L, acc, rs, h => by
    have e : cntS (d :: L) = cntS [d] + cntS L := cntS_app [d] L
    rw [runsD_cons] at h
    split at h
    · have := runs_len h
      omega
    · split at h
      · next z2 =>
        cases ha : amtD acc with
        | none => rw [ha] at h; cases h
        | some n =>
          rw [ha] at h
          cases hr : runsD [] L with
          | none => rw [hr] at h; cases h
          | some r0 =>
            rw [hr] at h
            cases h
            have := runs_len hr
            have e1 : cntS [d] = 1 := by
              unfold cntS
              rw [List.countP_singleton, if_pos (decide_eq_true z2)]
            rw [List.length_cons]
            omega
      · cases h
theorem find_at {L : List Nat} {c : Nat} (h : c ∈ L) : ∃ i : Nat, Txt.find (tx L) (tx [c]) = (i : Int) ∧ i + 1 ≤ L.length := by
  have ne : TL.tl (tx [c]) ≠ [] := by show [c] ≠ []; simp
  rcases find_whole (tx L) (tx [c]) with ⟨_, no⟩ | ⟨i, e, hat, _⟩
  · obtain ⟨j, hj⟩ := List.getElem?_of_mem h
    obtain ⟨hl, hj'⟩ := List.getElem?_eq_some_iff.mp hj
    refine absurd ((TL.at_iff ne j).mpr ?_) (no j)
    show TL.pre [c] (L.drop j) = true
    rw [List.drop_eq_getElem_cons hl, hj']
    exact TL.pre_self [c] _
  · have := hat.1
    rw [tx_len, tx_len] at this
    exact ⟨i, e, this⟩
theorem log30z {i : Int} (h : i.natAbs < 10 ^ 30) : i.natAbs.log2 < 1920 := by
  have := log30 (n := i.natAbs) h
  rwa [Int.natAbs_natCast] at this
/-- few short texts in a list -/
theorem pick_txt {l : List V} {k : Int} {b n : Nat} (h0 : 0 ≤ k) (h1 : k < (l.length : Int)) (h : ∀ v ∈ l, ∃ z : Str, v = .str z ∧ (TL.tl z).length ≤ b ∧ cntS (TL.tl z) ≤ n ∧ (TL.tl z).all (· < 1000) = true) : ∃ W, atI l k = some (.str (tx W)) ∧ TxW W b n := by
  obtain ⟨x, m, e⟩ := atI_ex h0 h1
  obtain ⟨z, rfl, a1, a2, a3⟩ := h x m
  refine ⟨TL.tl z, by rw [e]; exact congrArg (fun z => some (V.str z)) (str_tx rfl), a1, a2, fun c m => ?_⟩
  exact of_decide_eq_true (List.all_eq_true.mp a3 c m)
theorem pick_sgn {z : Str} {k : Int} {n : Nat} (h0 : 0 ≤ k) (h1 : k < ((TL.tl z).length : Int)) (h : (TL.tl z).all (fun c => decide (c < 1000) && decide (cntS [c] ≤ n)) = true) : ∃ c, atI z.cps.toList k = some c ∧ TxW [c] 1 n := by
  obtain ⟨c, m, e⟩ := atI_ex h0 h1
  have := List.all_eq_true.mp h c m
  rw [Bool.and_eq_true, decide_eq_true_eq, decide_eq_true_eq] at this
  exact ⟨c, e, Nat.le_refl _, this.2, fun d m => by rw [List.mem_singleton.mp m]; exact this.1⟩
theorem mm_find : MonM fun x xs H Q => ∃ a b, x = .str a ∧ xs = [.str b] ∧ Q (.int (Txt.find a b)) H := fun x y H Q Q' h ⟨a, b, e1, e2, q⟩ => ⟨a, b, e1, e2, h _ _ q⟩
section
variable {P : Program} {w : World} {K : PySem.W.Frag} {mg : Str → Option Value} {base : Heap}
def sp_numBy : Sp := fun vs H Q _ => ∃ c : Int, vs = [.int c] ∧ ∀ H' L, Same H H' → TxW L 14 0 → Q (.str (tx L)) H'
theorem mp_numBy : MonP sp_numBy := fun vs H Q Q' E h ⟨c, x1, k⟩ => ⟨c, x1, fun H' L a b => h _ _ (k H' L a b)⟩
theorem ok_numBy (T : Env fa fn K mg) : Good P w K mg base CX0 1 ("_law_number_by", none) ["_law_cell"] sp_numBy := by
  refine good_mk T 43 (d := d_w_number_by) (N := ["_law_cell", "_law_value"]) (ps := ["_law_cell"]) rfl rfl sc_w_number_by (fun _ _ _ _ _ _ us hl => match us, hl with | [_], _ => rfl) (fun vs H Q E h => ?_) (fun f cdv A outer s H vs Q E hr h => ?_)
  · obtain ⟨c, rfl, _⟩ := h; rfl
  · obtain ⟨c, rfl, k⟩ := h
    have hsz := sizeBig
    refine ⟨_, (pss_cons (ps_if (pt_cmpR op_eq (pe_op op_mod (pv 0) pe_int) pe_int (nomark _)) (pss_cons (ps_set (i := 1) sc_w_number_by.nd rfl (Or.inl rfl) (pe_op op_add (pe_op op_pow pe_int pe_int) (pe_op op_mod (pe_op op_fdivW (pv 0) pe_int) (pe_ix (ix_listK K rfl) (pe_lst (pa_cons (pe_op op_pow pe_int pe_int) (pa_cons (pe_op op_mulW pe_int (pe_op op_pow pe_int pe_int)) pa_nil))) (pe_op op_mod (pe_op op_fdivW (pv 0) pe_int) pe_int) (fun _ _ => rfl)))))
      (pss_one (ps_ret (pe_op op_add_str (pe_ix (ix_listK K rfl) (pe_lst (pa_cons pe_str (pa_cons pe_str pa_nil))) (pe_op op_mod (pe_op op_fdivW (pv 0) pe_int) pe_int) (fun _ _ => rfl)) (pe_callTy call_str_int (by rfl) (T.free 3) (by decide +kernel) (pa_cons (pv 1) pa_nil)))))) pss_nil)
      (pss_one (ps_ret (pe_callTy call_str_int (by rfl) (T.free 3) (by decide +kernel) (pa_cons (pe_op op_sub (pe_op op_mod (pe_op op_fdivW (pv 0) pe_int) pe_int) pe_int) pa_nil))))), ?_⟩
    walk_at "rd"
    refine ite_d (fun z => ?_) (fun z => ?_)
    · walk_at "rd"
      refine rd_I (by unfold CPow; decide) ?_
      rw [show (10 : Int) ^ Int.toNat 12 = 1000000000000 by decide]
      walk_at "rd"
      refine rd_I (by unfold CPow; decide) ?_
      rw [show (10 : Int) ^ Int.toNat 11 = 100000000000 by decide]
      walk_at "rd"
      refine rd_I (by unfold CPow; decide) ?_
      rw [show (10 : Int) ^ Int.toNat 12 = 1000000000000 by decide]
      walk_at "rd"
      refine rd_I (mulW_of (by decide) (by decide) (by decide) (by decide)) ?_
      rw [show (9 : Int) * 1000000000000 = 9000000000000 by decide]
      walk_at "rd"
      refine rd_new (hn := by show 2 ≤ sizeLine; decide) fun p hp => ?_
      have s1 := same_upd (o := HO.lst [V.int 100000000000, V.int 9000000000000]) hp
      have L1 : (upd H p (HO.lst [V.int 100000000000, V.int 9000000000000])) p = _ := upd_same
      generalize upd H p (HO.lst [V.int 100000000000, V.int 9000000000000]) = H1 at *
      walk_at "rd"
      obtain ⟨m, m0, m1, hat⟩ : ∃ m : Int, 0 < m ∧ m ≤ 9000000000000 ∧ atI [V.int 100000000000, V.int 9000000000000] (c / 8 % 2) = some (.int m) := by
        rcases (by omega : c / 8 % 2 = 0 ∨ c / 8 % 2 = 1) with e | e <;> rw [e]
        · exact ⟨100000000000, by decide, by decide, atI_nat (j := 0) rfl⟩
        · exact ⟨9000000000000, by decide, by decide, atI_nat (j := 1) rfl⟩
      refine rd_ixL (SqL.of L1) hat ?_
      refine rd_mod m0 ?_
      have g0 := Int.emod_nonneg (c / 16) (show m ≠ 0 by omega)
      have g1 := Int.emod_lt_of_pos (c / 16) m0
      generalize c / 16 % m = r at *
      walk_at "rd"
      refine rd_new (hn := by show 2 ≤ sizeLine; decide) fun p2 hp2 => ?_
      have s2 := same_upd (o := HO.lst [V.str (Str.ofString ""), V.str (Str.ofString "-")]) hp2
      have L2 : (upd H1 p2 (HO.lst [V.str (Str.ofString ""), V.str (Str.ofString "-")])) p2 = _ := upd_same
      generalize upd H1 p2 (HO.lst [V.str (Str.ofString ""), V.str (Str.ofString "-")]) = H2 at *
      walk_at "rd"
      obtain ⟨W, hW, tw⟩ : ∃ W, atI [V.str (Str.ofString ""), V.str (Str.ofString "-")] (c / 4 % 2) = some (.str (tx W)) ∧ TxW W 1 0 := pick_txt (by omega) (by show _ < (2 : Int); omega) (by
        intro v m
        simp only [List.mem_cons, List.not_mem_nil, or_false] at m
        rcases m with rfl | rfl <;> exact ⟨_, rfl, by decide +kernel, by decide +kernel, by decide +kernel⟩)
      refine rd_ixL (SqL.of L2) hW ?_
      walk_at "rd"
      refine ⟨_, rfl, log30z (by omega), ?_⟩
      rw [tx_int]
      have tn : TxW (numT (1000000000000 + r)) 13 0 := by
        refine num_txW ?_ (numT_signs _)
        unfold numT
        rw [if_neg (by omega)]
        exact TL.numL_len (k := 13) (by decide) (by omega)
      refine ⟨_, _, rfl, rfl, by rw [tx_len, tx_len]; have := tw.1; have := tn.1; omega, ?_⟩
      rw [tx_app]
      exact k H2 _ (s1.trans s2) (tw.app tn)
    · walk_at "rd"
      refine ⟨_, rfl, log30z (by omega), ?_⟩
      rw [tx_int]
      exact k H _ (Same.refl _) (num_txW (Nat.le_trans (numT_len (k := 1) (by decide) (by omega)) (by decide)) (numT_signs _))
def sp_runBy : Sp := fun vs H Q _ => ∃ c : Int, vs = [.int c] ∧ ∀ H' L, Same H H' → TxW L 14 1 → Q (.str (tx L)) H'
theorem mp_runBy : MonP sp_runBy := fun vs H Q Q' E h ⟨c, x1, k⟩ => ⟨c, x1, fun H' L a b => h _ _ (k H' L a b)⟩
theorem ok_runBy (T : Env fa fn K mg) : Good P w K mg base CX0 1 ("_law_run_by", none) ["_law_cell"] sp_runBy := by
  refine good_mk T 44 (d := d_w_run_by) (N := ["_law_cell", "_law_amount"]) (ps := ["_law_cell"]) rfl rfl sc_w_run_by (fun _ _ _ _ _ _ us hl => match us, hl with | [_], _ => rfl) (fun vs H Q E h => ?_) (fun f cdv A outer s H vs Q E hr h => ?_)
  · obtain ⟨c, rfl, _⟩ := h; rfl
  · obtain ⟨c, rfl, k⟩ := h
    have hsz := sizeBig
    refine ⟨_, (pss_cons (ps_if (pt_cmpR op_eq (pe_op op_mod (pv 0) pe_int) pe_int (nomark _)) (pss_one (ps_ret (pe_op op_add_str (pe_ix (ix_listK K rfl) (pe_lst (pa_cons pe_str (pa_cons pe_str (pa_cons pe_str (pa_cons pe_str (pa_cons pe_str (pa_cons pe_str pa_nil))))))) (pe_op op_mod (pe_op op_fdivW (pv 0) pe_int) pe_int) (fun _ _ => rfl)) (pe_ix ix_str pe_str (pe_op op_mod (pe_op op_fdivW (pv 0) pe_int) pe_int) (fun _ _ => rfl))))) pss_nil)
      (pss_cons (ps_set (i := 1) sc_w_run_by.nd rfl (Or.inl rfl) (pe_ix (ix_listK K rfl) (pe_lst (pa_cons pe_str (pa_cons pe_str (pa_cons pe_str (pa_cons pe_str pa_nil))))) (pe_op op_mod (pe_op op_fdivW (pv 0) pe_int) pe_int) (fun _ _ => rfl)))
      (pss_cons (ps_if (pt_cmpR op_eq (pe_op op_mod (pe_op op_fdivW (pv 0) pe_int) pe_int) pe_int (nomark _)) (pss_one (ps_set (i := 1) sc_w_run_by.nd rfl (Or.inl rfl) (pe_callTy call_str_int (by rfl) (T.free 3) (by decide +kernel) (pa_cons (pe_op op_add (pe_op op_pow pe_int pe_int) (pe_op op_mod (pe_op op_fdivW (pv 0) pe_int) (pe_op op_mulW pe_int (pe_op op_pow pe_int pe_int)))) pa_nil)))) pss_nil)
      (pss_one (ps_ret (pe_op op_add_str (pv 1) (pe_ix ix_str pe_str (pe_op op_mod (pe_op op_fdivW (pv 0) pe_int) pe_int) (fun _ _ => rfl)))))))), ?_⟩
    walk_at "rd"
    refine ite_d (fun z => ?_) (fun z => ?_)
    · walk_at "rd"
      refine rd_new (hn := by show 6 ≤ sizeLine; decide) fun p hp => ?_
      have s1 := same_upd (o := HO.lst [V.str (Str.ofString ""), V.str (Str.ofString ""), V.str (Str.ofString "2"), V.str (Str.ofString "3"), V.str (Str.ofString "4"), V.str (Str.ofString "5")]) hp
      have L1 : (upd H p (HO.lst [V.str (Str.ofString ""), V.str (Str.ofString ""), V.str (Str.ofString "2"), V.str (Str.ofString "3"), V.str (Str.ofString "4"), V.str (Str.ofString "5")])) p = _ := upd_same
      generalize upd H p (HO.lst [V.str (Str.ofString ""), V.str (Str.ofString ""), V.str (Str.ofString "2"), V.str (Str.ofString "3"), V.str (Str.ofString "4"), V.str (Str.ofString "5")]) = H1 at *
      walk_at "rd"
      obtain ⟨W, hW, tw⟩ : ∃ W, atI [V.str (Str.ofString ""), V.str (Str.ofString ""), V.str (Str.ofString "2"), V.str (Str.ofString "3"), V.str (Str.ofString "4"), V.str (Str.ofString "5")] (c / 2 % 6) = some (.str (tx W)) ∧ TxW W 1 0 := pick_txt (by omega) (by show _ < (6 : Int); omega) (by
        intro v m
        simp only [List.mem_cons, List.not_mem_nil, or_false] at m
        rcases m with rfl | rfl | rfl | rfl | rfl | rfl <;> exact ⟨_, rfl, by decide +kernel, by decide +kernel, by decide +kernel⟩)
      refine rd_ixL (SqL.of L1) hW ?_
      walk_at "rd"
      obtain ⟨d, hd, td⟩ := pick_sgn (z := Str.ofString "ABCDEFG") (k := c / 12 % 7) (n := 1) (by omega) (by rw [show (TL.tl (Str.ofString "ABCDEFG")).length = 7 by decide +kernel]; omega) (by decide +kernel)
      refine ⟨_, _, d, rfl, rfl, by decide +kernel, hd, ?_⟩
      walk_at "rd"
      refine ⟨_, _, rfl, rfl, by rw [tx_len]; have := tw.1; show _ + 1 ≤ _; omega, ?_⟩
      rw [show (⟨#[d]⟩ : Str) = tx [d] from rfl, tx_app]
      exact k H1 _ s1 ((tw.app td).mono (by decide) (by decide))
    · walk_at "rd"
      refine rd_new (hn := by show 4 ≤ sizeLine; decide) fun p hp => ?_
      have s1 := same_upd (o := HO.lst [V.str (Str.ofString ""), V.str (Str.ofString "2"), V.str (Str.ofString "3"), V.str (Str.ofString "5")]) hp
      have L1 : (upd H p (HO.lst [V.str (Str.ofString ""), V.str (Str.ofString "2"), V.str (Str.ofString "3"), V.str (Str.ofString "5")])) p = _ := upd_same
      generalize upd H p (HO.lst [V.str (Str.ofString ""), V.str (Str.ofString "2"), V.str (Str.ofString "3"), V.str (Str.ofString "5")]) = H1 at *
      walk_at "rd"
      obtain ⟨W, hW, tw⟩ : ∃ W, atI [V.str (Str.ofString ""), V.str (Str.ofString "2"), V.str (Str.ofString "3"), V.str (Str.ofString "5")] (c / 2 % 4) = some (.str (tx W)) ∧ TxW W 1 0 := pick_txt (by omega) (by show _ < (4 : Int); omega) (by
        intro v m
        simp only [List.mem_cons, List.not_mem_nil, or_false] at m
        rcases m with rfl | rfl | rfl | rfl <;> exact ⟨_, rfl, by decide +kernel, by decide +kernel, by decide +kernel⟩)
      refine rd_ixL (SqL.of L1) hW ?_
      have fin : ∀ W : List Nat, TxW W 13 0 → ∀ d : Nat, TxW [d] 1 1 → Q (.str (tx W ++ (⟨#[d]⟩ : Str))) H1 := fun W tw d td => by
        rw [show (⟨#[d]⟩ : Str) = tx [d] from rfl, tx_app]
        exact k H1 _ s1 (tw.app td)
      obtain ⟨d, hd, td⟩ := pick_sgn (z := Str.ofString "./") (k := c / 32 % 2) (n := 1) (by omega) (by rw [show (TL.tl (Str.ofString "./")).length = 2 by decide +kernel]; omega) (by decide +kernel)
      walk_at "rd"
      refine ite_d (fun z2 => ?_) (fun z2 => ?_)
      · walk_at "rd"
        refine rd_I (by unfold CPow; decide) ?_
        rw [show (10 : Int) ^ Int.toNat 12 = 1000000000000 by decide]
        walk_at "rd"
        refine rd_I (by unfold CPow; decide) ?_
        rw [show (10 : Int) ^ Int.toNat 12 = 1000000000000 by decide]
        walk_at "rd"
        refine rd_I (mulW_of (by decide) (by decide) (by decide) (by decide)) ?_
        rw [show (9 : Int) * 1000000000000 = 9000000000000 by decide]
        refine rd_mod (by decide) ?_
        have g0 := Int.emod_nonneg (c / 64) (show (9000000000000 : Int) ≠ 0 by decide)
        have g1 := Int.emod_lt_of_pos (c / 64) (show (0 : Int) < 9000000000000 by decide)
        generalize c / 64 % 9000000000000 = r at *
        walk_at "rd"
        refine ⟨_, rfl, log30z (by omega), ?_⟩
        rw [tx_int]
        have tn : TxW (numT (1000000000000 + r)) 13 0 := by
          refine num_txW ?_ (numT_signs _)
          unfold numT
          rw [if_neg (by omega)]
          exact TL.numL_len (k := 13) (by decide) (by omega)
        walk_at "rd"
        refine ⟨_, _, d, rfl, rfl, by decide +kernel, hd, ?_⟩
        walk_at "rd"
        refine ⟨_, _, rfl, rfl, by rw [tx_len]; have := tn.1; show _ + 1 ≤ _; omega, ?_⟩
        exact fin _ tn d td
      · walk_at "rd"
        refine ⟨_, _, d, rfl, rfl, by decide +kernel, hd, ?_⟩
        walk_at "rd"
        refine ⟨_, _, rfl, rfl, by rw [tx_len]; have := tw.1; show _ + 1 ≤ _; omega, ?_⟩
        exact fin _ (tw.mono (by decide) (Nat.le_refl _)) d td
def sp_oddRun : Sp := fun vs H Q _ => ∃ c : Int, vs = [.int c] ∧ ∀ H' L, Same H H' → TxW L 4 1 → Q (.str (tx L)) H'
theorem mp_oddRun : MonP sp_oddRun := fun vs H Q Q' E h ⟨c, x1, k⟩ => ⟨c, x1, fun H' L a b => h _ _ (k H' L a b)⟩
theorem ok_oddRun (T : Env fa fn K mg) : Good P w K mg base CX0 1 ("_law_odd_run", none) ["_law_cell"] sp_oddRun := by
  refine good_mk T 45 (d := d_w_odd_run) (N := ["_law_cell", "_law_odd"]) (ps := ["_law_cell"]) rfl rfl sc_w_odd_run (fun _ _ _ _ _ _ us hl => match us, hl with | [_], _ => rfl) (fun vs H Q E h => ?_) (fun f cdv A outer s H vs Q E hr h => ?_)
  · obtain ⟨c, rfl, _⟩ := h; rfl
  · obtain ⟨c, rfl, k⟩ := h
    obtain ⟨ws, hws⟩ : ∃ ws, ws = [V.str (Str.ofString "1A"), V.str (Str.ofString "0B"), V.str (Str.ofString "1."), V.str (Str.ofString "1/"), V.str (Str.ofString "02C"), V.str (Str.ofString "00/"), V.str (Str.ofString "10D"), V.str (Str.ofString "3"), V.str (Str.ofString "1G"), V.str (Str.ofString "0."), V.str (Str.ofString "100E"), V.str (Str.ofString "-2F")] := ⟨_, rfl⟩
    refine ⟨_, (pss_cons (ps_set (i := 1) sc_w_odd_run.nd rfl (Or.inl rfl) (pe_lst (pa_cons pe_str (pa_cons pe_str (pa_cons pe_str (pa_cons pe_str (pa_cons pe_str (pa_cons pe_str (pa_cons pe_str (pa_cons pe_str (pa_cons pe_str (pa_cons pe_str (pa_cons pe_str (pa_cons pe_str pa_nil))))))))))))))
      (pss_one (ps_ret (pe_ix (ix_listK K rfl) (pv 1) (pe_op op_mod (pv 0) pe_int) (fun _ _ => rfl))))), ?_⟩
    walk_at "rd"
    refine rd_new (hn := by show 12 ≤ sizeLine; decide) fun p hp => ?_
    rw [← hws]
    have s1 := same_upd (o := HO.lst ws) hp
    have L1 : (upd H p (HO.lst ws)) p = _ := upd_same
    generalize upd H p (HO.lst ws) = H1 at *
    walk_at "rd"
    obtain ⟨W, hW, tw⟩ : ∃ W, atI ws (c % 12) = some (.str (tx W)) ∧ TxW W 4 1 := pick_txt (by omega) (by rw [hws]; show _ < (12 : Int); omega) (by
      intro v m
      rw [hws] at m
      simp only [List.mem_cons, List.not_mem_nil, or_false] at m
      rcases m with rfl | rfl | rfl | rfl | rfl | rfl | rfl | rfl | rfl | rfl | rfl | rfl <;> exact ⟨_, rfl, by decide +kernel, by decide +kernel, by decide +kernel⟩)
    refine rd_ixL (SqL.of L1) hW ?_
    exact k H1 W s1 tw
def sp_signBy : Sp := fun vs H Q _ => ∃ c : Int, vs = [.int c] ∧ ∀ d : Nat, TxW [d] 1 1 → Q (.str (tx [d])) H
theorem mp_signBy : MonP sp_signBy := fun vs H Q Q' E h ⟨c, x1, k⟩ => ⟨c, x1, fun L b => h _ _ (k L b)⟩
theorem ok_signBy (T : Env fa fn K mg) : Good P w K mg base CX0 1 ("_law_sign_by", none) ["_law_cell"] sp_signBy := by
  refine good_mk T 46 (d := d_w_sign_by) (N := ["_law_cell", "_law_some"]) (ps := ["_law_cell"]) rfl rfl sc_w_sign_by (fun _ _ _ _ _ _ us hl => match us, hl with | [_], _ => rfl) (fun vs H Q E h => ?_) (fun f cdv A outer s H vs Q E hr h => ?_)
  · obtain ⟨c, rfl, _⟩ := h; rfl
  · obtain ⟨c, rfl, k⟩ := h
    have hsz := sizeBig
    refine ⟨_, (pss_cons (ps_if (pt_cmpR op_eq (pe_op op_mod (pv 0) pe_int) pe_int (nomark _)) (pss_one (ps_ret (pe_ix ix_str pe_str (pe_op op_mod (pe_op op_fdivW (pv 0) pe_int) pe_int) (fun _ _ => rfl)))) pss_nil)
      (pss_cons (ps_set (i := 1) sc_w_sign_by.nd rfl (Or.inl rfl) pe_str)
      (pss_cons (ps_set (i := 1) sc_w_sign_by.nd rfl (Or.inl rfl) (pe_op op_add_str (pv 1) pe_str))
      (pss_one (ps_ret (pe_ix ix_str (pv 1) (pe_op op_mod (pe_op op_fdivW (pv 0) pe_int) (pe_callB call_len_str (by rfl) (T.free 4) (by decide +kernel) (pa_cons (pv 1) pa_nil))) (fun _ _ => rfl))))))), ?_⟩
    walk_at "rd"
    refine ite_d (fun z => ?_) (fun z => ?_)
    · walk_at "rd"
      obtain ⟨d, hd, td⟩ := pick_sgn (z := Str.ofString "0123456789.,:-/ABCDEFG \n") (k := c / 2 % 24) (n := 1) (by omega) (by rw [show (TL.tl (Str.ofString "0123456789.,:-/ABCDEFG \n")).length = 24 by decide +kernel]; omega) (by decide +kernel)
      refine ⟨_, _, d, rfl, rfl, by decide +kernel, hd, ?_⟩
      exact k d td
    · walk_at "rd"
      refine ⟨_, _, rfl, rfl, by decide +kernel, ?_⟩
      obtain ⟨Z, hZ⟩ : ∃ Z, Z = Str.ofString " !\"#$&'()*+,-./0123456789:;<=>?@ABCDEFGHIJKLMNOPQRSTUVWXYZ[\\]^_`" ++ Str.ofString "abcdefghijklmnopqrstuvwxyz{|}~\n" := ⟨_, rfl⟩
      rw [← hZ]
      have h1 : (0 < Z.length ∧ Z.length ≤ 1000) ∧ (TL.tl Z).all (fun c => decide (c < 1000) && decide (cntS [c] ≤ 1)) = true := by
        rw [hZ]
        decide +kernel
      walk_at "rd"
      refine ⟨_, rfl, Nat.le_trans h1.1.2 (by omega), ?_⟩
      walk_at "rd"
      have g0 := Int.emod_nonneg (c / 2) (show ((Z.length : Nat) : Int) ≠ 0 by omega)
      have g1 := Int.emod_lt_of_pos (c / 2) (show (0 : Int) < ((Z.length : Nat) : Int) by omega)
      refine rd_mod (by omega) ?_
      rw [TL.len_tl] at g1
      obtain ⟨d, hd, td⟩ := pick_sgn (z := Z) (n := 1) g0 (by rw [← TL.len_tl] at g1 ⊢; exact g1) h1.2
      refine ⟨_, _, d, rfl, rfl, Nat.le_trans h1.1.2 (by omega), hd, ?_⟩
      exact k d td
def sp_spoiled : Sp := fun vs H Q _ => ∃ (L : List Nat) (c : Int) (d : Nat) (k n : Nat), vs = [.str (tx L), .int c, .str (tx [d])] ∧ TxW L k n ∧ k ≤ 500 ∧ TxW [d] 1 1 ∧ 44 ∈ L ∧ 58 ∈ L ∧ ∀ H' L', Same H H' → TxW L' (k + 1) (n + 1) → Q (.str (tx L')) H'
theorem mp_spoiled : MonP sp_spoiled := fun vs H Q Q' E h ⟨L, c, d, k, n, x1, x2, x3, x4, x5, x6, q⟩ => ⟨L, c, d, k, n, x1, x2, x3, x4, x5, x6, fun H' L a b => h _ _ (q H' L a b)⟩
theorem TxW.cut {L : List Nat} {k n : Nat} (h : TxW L k n) {d : Nat} (hd : TxW [d] 1 1) (i j : Nat) (hij : i ≤ j) (hj : j ≤ i + 1) : TxW (L.take i ++ [d] ++ L.drop j) (k + 1) (n + 1) ∧ TxW (L.take i ++ L.drop j) (k + 1) (n + 1) := by
  have e1 := cntS_take L i
  have e2 : cntS (L.drop j) ≤ cntS (L.drop i) := by
    have e : L.drop i = (L.drop i).take (j - i) ++ L.drop j := by
      have := (List.take_append_drop (j - i) (L.drop i)).symm
      rwa [List.drop_drop, show i + (j - i) = j by omega] at this
    rw [e, cntS_app]
    omega
  obtain ⟨a1, a2, a3⟩ := h
  obtain ⟨b1, b2, b3⟩ := hd
  have lw : ∀ c ∈ L.take i ++ L.drop j, c < 1000 := fun c m => (List.mem_append.mp m).elim (fun m => a3 c (List.mem_of_mem_take m)) (fun m => a3 c (List.mem_of_mem_drop m))
  refine ⟨⟨?_, ?_, fun c m => ?_⟩, ⟨?_, ?_, lw⟩⟩
  · simp only [List.length_append, List.length_take, List.length_drop, List.length_singleton]
    omega
  · rw [cntS_app, cntS_app]
    omega
  · rcases List.mem_append.mp m with m | m
    · rcases List.mem_append.mp m with m | m
      · exact lw c (List.mem_append_left _ m)
      · exact b3 c m
    · exact lw c (List.mem_append_right _ m)
  · simp only [List.length_append, List.length_take, List.length_drop]
    omega
  · rw [cntS_app]
    omega
set_option maxHeartbeats 8000000 in
theorem ok_spoiled (T : Env fa fn K mg) : Good P w K mg base CX0 1 ("_law_spoiled", none) ["_law_text", "_law_cell", "_law_sign"] sp_spoiled := by
  refine good_mk T 47 (d := d_w_spoiled) (N := ["_law_text", "_law_cell", "_law_sign", "_law_at_here"]) (ps := ["_law_text", "_law_cell", "_law_sign"]) rfl rfl sc_w_spoiled (fun _ _ _ _ _ _ us hl => match us, hl with | [_, _, _], _ => rfl) (fun vs H Q E h => ?_) (fun f cdv A outer s H vs Q E hr h => ?_)
  · obtain ⟨L, c, d, k, n, rfl, _⟩ := h; rfl
  · obtain ⟨L, c, d, k, n, rfl, tl, hk, td, m44, m58, q⟩ := h
    have hsz := sizeBig
    have ll := tl.1
    refine ⟨_, (pss_cons (ps_set (i := 3) sc_w_spoiled.nd rfl (Or.inl rfl) (pe_op op_mod (pe_op op_fdivW (pv 1) pe_int) (pe_op op_add (pe_callB call_len_str (by rfl) (T.free 4) (by decide +kernel) (pa_cons (pv 0) pa_nil)) pe_int)))
      (pss_cons (ps_if (pt_cmpR op_eq (pe_op op_mod (pe_op op_fdivW (pv 1) pe_int) pe_int) pe_int (nomark _)) (pss_one (ps_set (i := 3) sc_w_spoiled.nd rfl (Or.inl rfl) (pe_ix (ix_listK K rfl) (pe_lst (pa_cons pe_int (pa_cons (pe_callB call_len_str (by rfl) (T.free 4) (by decide +kernel) (pa_cons (pv 0) pa_nil)) (pa_cons (pe_m1 PySem.F.slot_str_find PySem.F.type_str_find mt_find (pv 0) pe_str) (pa_cons (pe_op op_add (pe_m1 PySem.F.slot_str_find PySem.F.type_str_find mt_find (pv 0) pe_str) pe_int) (pa_cons (pe_m1 PySem.F.slot_str_find PySem.F.type_str_find mt_find (pv 0) pe_str) (pa_cons (pe_op op_add (pe_m1 PySem.F.slot_str_find PySem.F.type_str_find mt_find (pv 0) pe_str) pe_int) pa_nil))))))) (pe_op op_mod (pe_op op_fdivW (pv 1) pe_int) pe_int) (fun _ _ => rfl)))) pss_nil)
      (pss_cons (ps_if (pt_cmpR op_lt (pe_op op_mod (pv 1) pe_int) pe_int (nomark _)) (pss_one (ps_ret (pe_op op_add_str (pe_op op_add_str (pe_slice sl_str (pv 0) po_none (po_some (pv 3))) (pv 2)) (pe_slice sl_str (pv 0) (po_some (pv 3)) po_none)))) pss_nil)
      (pss_cons (ps_if (pt_cmpR op_lt (pe_op op_mod (pv 1) pe_int) pe_int (nomark _)) (pss_one (ps_ret (pe_op op_add_str (pe_op op_add_str (pe_slice sl_str (pv 0) po_none (po_some (pv 3))) (pv 2)) (pe_slice sl_str (pv 0) (po_some (pe_op op_add (pv 3) pe_int)) po_none)))) pss_nil)
      (pss_cons (ps_if (pt_cmpR op_eq (pe_op op_mod (pv 1) pe_int) pe_int (nomark _)) (pss_one (ps_ret (pe_op op_add_str (pe_slice sl_str (pv 0) po_none (po_some (pv 3))) (pe_slice sl_str (pv 0) (po_some (pe_op op_add (pv 3) pe_int)) po_none)))) pss_nil)
      (pss_one (ps_ret (pv 0)))))))), ?_⟩
    walk_at "rd"
    refine ⟨_, rfl, len_ok (by omega), ?_⟩
    walk_at "rd"
    rw [tx_len]
    have g0 := Int.emod_nonneg (c / 18) (show ((L.length : Nat) : Int) + 1 ≠ 0 by omega)
    have g1 := Int.emod_lt_of_pos (c / 18) (show (0 : Int) < ((L.length : Nat) : Int) + 1 by omega)
    refine rd_mod (by omega) ?_
    obtain ⟨i0, hi0⟩ := nat_of g0
    rw [hi0]
    walk_at "rhi"
    refine rd_cut (fun σ H' => Same H H' ∧ ∃ i : Nat, i ≤ L.length ∧ σ = [some (.str (tx L)), some (.int c), some (.str (tx [d])), some (.int (i : Int))]) (by
      have := mr_sl
      have := mc_lenS
      have := mm_find
      walk_at "mono") ?_ ?_
    · walk_at "rd"
      refine ite_d (fun z => ?_) (fun z => ?_)
      · obtain ⟨i, ei, li⟩ := find_at m44
        obtain ⟨j, ej, lj⟩ := find_at m58
        walk_at "rd"
        refine ⟨_, rfl, len_ok (by omega), ?_⟩
        walk_at "rd"
        refine rd_m1 ?_
        walk_at "rd"
        refine rd_st ?_
        walk_at "rd"
        refine ⟨_, _, rfl, rfl, ?_⟩
        rw [tx_comma, ei]
        walk_at "rd"
        refine rd_m1 ?_
        walk_at "rd"
        refine rd_st ?_
        walk_at "rd"
        refine ⟨_, _, rfl, rfl, ?_⟩
        rw [ei]
        walk_at "rd"
        refine rd_m1 ?_
        walk_at "rd"
        refine rd_st ?_
        walk_at "rd"
        refine ⟨_, _, rfl, rfl, ?_⟩
        rw [tx_colon, ej]
        walk_at "rd"
        refine rd_m1 ?_
        walk_at "rd"
        refine rd_st ?_
        walk_at "rd"
        refine ⟨_, _, rfl, rfl, ?_⟩
        rw [ej]
        walk_at "rd"
        rw [tx_len]
        obtain ⟨ws, hws⟩ : ∃ ws, ws = [V.int 0, V.int (L.length : Int), V.int (i : Int), V.int ((i : Int) + 1), V.int (j : Int), V.int ((j : Int) + 1)] := ⟨_, rfl⟩
        refine rd_new (hn := by show 6 ≤ sizeLine; decide) fun p hp => ?_
        rw [← hws]
        have s1 := same_upd (o := HO.lst ws) hp
        have L1 : (upd H p (HO.lst ws)) p = _ := upd_same
        generalize upd H p (HO.lst ws) = H1 at *
        walk_at "rd"
        obtain ⟨x, mx, hx⟩ : ∃ x, x ∈ ws ∧ atI ws (c / 18 % 6) = some x := atI_ex (by omega) (by rw [hws]; show _ < (6 : Int); omega)
        obtain ⟨m, rfl, hm⟩ : ∃ m : Nat, x = .int (m : Int) ∧ m ≤ L.length := by
          rw [hws] at mx
          simp only [List.mem_cons, List.not_mem_nil, or_false] at mx
          rcases mx with rfl | rfl | rfl | rfl | rfl | rfl
          · exact ⟨0, rfl, Nat.zero_le _⟩
          · exact ⟨L.length, rfl, Nat.le_refl _⟩
          · exact ⟨i, rfl, by omega⟩
          · exact ⟨i + 1, rfl, li⟩
          · exact ⟨j, rfl, by omega⟩
          · exact ⟨j + 1, rfl, lj⟩
        refine rd_ixL (SqL.of L1) hx ?_
        walk_at "rd"
        exact ⟨s1, m, hm, rfl⟩
      · walk_at "rd"
        exact ⟨Same.refl _, i0, by omega, rfl⟩
    rintro σ H1 ⟨s1, i, hi, rfl⟩
    obtain ⟨t1, t2⟩ := tl.cut td i i (Nat.le_refl _) (by omega)
    obtain ⟨t3, t4⟩ := tl.cut td i (i + 1) (by omega) (by omega)
    have ecT := cut_to L i
    have ecF := cut_from L i
    have ecN : cutS (tx L) (some ((i : Int) + 1)) none = tx (L.drop (i + 1)) := by
      rw [show (i : Int) + 1 = ((i + 1 : Nat) : Int) by omega, cut_from]
    have lt : (L.take i).length ≤ 500 := by rw [List.length_take]; omega
    have ld : (L.drop i).length ≤ 500 := by rw [List.length_drop]; omega
    have ld1 : (L.drop (i + 1)).length ≤ 500 := by rw [List.length_drop]; omega
    walk_at "rd"
    refine ite_d (fun c1 => ?_) (fun c1 => ?_)
    · walk_at "rd"
      refine ⟨_, rfl, len_ok (by omega), ?_⟩
      rw [ecT]
      walk_at "rd"
      refine ⟨_, _, rfl, rfl, by rw [tx_len, tx_len]; show _ + 1 ≤ _; omega, ?_⟩
      rw [tx_app]
      walk_at "rd"
      refine ⟨_, rfl, len_ok (by omega), ?_⟩
      rw [ecF]
      refine ⟨_, _, rfl, rfl, by rw [tx_len, tx_len, List.length_append]; show _ + 1 + _ ≤ _; omega, ?_⟩
      rw [tx_app]
      exact q H1 _ s1 t1
    · walk_at "rd"
      refine ite_d (fun c2 => ?_) (fun c2 => ?_)
      · walk_at "rd"
        refine ⟨_, rfl, len_ok (by omega), ?_⟩
        rw [ecT]
        walk_at "rd"
        refine ⟨_, _, rfl, rfl, by rw [tx_len, tx_len]; show _ + 1 ≤ _; omega, ?_⟩
        rw [tx_app]
        walk_at "rd"
        refine ⟨_, rfl, len_ok (by omega), ?_⟩
        rw [ecN]
        refine ⟨_, _, rfl, rfl, by rw [tx_len, tx_len, List.length_append]; show _ + 1 + _ ≤ _; omega, ?_⟩
        rw [tx_app]
        exact q H1 _ s1 t3
      · walk_at "rd"
        refine ite_d (fun c3 => ?_) (fun c3 => ?_)
        · walk_at "rd"
          refine ⟨_, rfl, len_ok (by omega), ?_⟩
          rw [ecT]
          walk_at "rd"
          refine ⟨_, rfl, len_ok (by omega), ?_⟩
          rw [ecN]
          refine ⟨_, _, rfl, rfl, by rw [tx_len, tx_len]; omega, ?_⟩
          rw [tx_app]
          exact q H1 _ s1 t4
        · walk_at "rd"
          exact q H1 _ s1 (tl.mono (by omega) (by omega))
end
end JF

/-! ### law k84: a pattern asked for, judged by the law's reader -/
namespace JF
open PySem PySem.Spec PyProof.Rows L2 NdefX LamX
theorem cntS_cut {c : Nat} {L A B : List Nat} (h : cutC c L = some (A, B)) : cntS A ≤ cntS L ∧ cntS B ≤ cntS L ∧ B.length ≤ L.length := by
  have e := (cutC_some h).1
  have hl := cutC_len h
  have e2 : cntS L = cntS A + (cntS [c] + cntS B) := by
    conv => lhs; rw [e]
    rw [cntS_app, show c :: B = [c] ++ B from rfl, cntS_app]
  exact ⟨by omega, by omega, hl.2⟩
open Classical in
theorem patD_runs {L : List Nat} {left top : Int} {rs : List Rn} (h : patD L = some (left, top, rs)) : (∀ r ∈ rs, RnW r ∧ r.1 < 10 ^ 13) ∧ rs.length ≤ cntS L := by
  unfold patD at h
  cases e : cutC 58 L with
  | none => rw [e] at h; cases h
  | some p =>
    obtain ⟨A, B⟩ := p
    rw [e] at h
    dsimp only at h
    cases e2 : cutC 44 A with
    | none => rw [e2] at h; cases h
    | some p2 =>
      obtain ⟨l, t⟩ := p2
      rw [e2] at h
      dsimp only at h
      split at h
      · cases er : runsD [] B with
        | none => rw [er] at h; cases h
        | some rs' =>
          rw [er] at h
          have e3 : rs' = rs := by
            have := Option.some.inj h
            simp only [Prod.mk.injEq] at this
            exact this.2.2
          subst e3
          exact ⟨(runsD_ok (fun c m => by cases m) er).1, Nat.le_trans (runs_len er) (cntS_cut e).2.1⟩
      · cases h
theorem low_sign {c : Nat} (h : c ∈ signs9) : Low [c] := fun d m => by
  rw [List.mem_singleton.mp m]
  simp only [signs9, List.mem_cons, List.not_mem_nil, or_false] at h
  rcases h with rfl | rfl | rfl | rfl | rfl | rfl | rfl | rfl | rfl <;> decide
theorem rd_neIS {K : PySem.W.Frag} {H : Hp} {Q : VK} {p p' : Addr} {n : Int} {z : Str} (h1 : H p = some (.tup [.int n, .str z])) (h2 : H p' = some (.tup [.int n, .str z])) (hz : PyData.strOk z = true) (q : Q (.bl false) H) : rNeD K (.ref p) (.ref p') H Q := by
  refine ⟨_, _, .tup (SqT.of h1) (.cons (.int n) (.cons (.str z) .nil)), .tup (SqT.of h2) (.cons (.int n) (.cons (.str z) .nil)), shaped_IS _ _ hz, shaped_IS _ _ hz, ?_⟩
  have e : PyData.eqv (.tuple [.int n, .str z]) (.tuple [.int n, .str z]) = true := by simp [PyData.eqv, PyData.eqvAll]
  rw [e]; exact q
section
variable {P : Program} {w : World} {K : PySem.W.Frag} {mg : Str → Option Value} {base : Heap}
/-- runs told, or refused -/
def ListedIs (H' : Hp) (o : Option (List Rn)) (u : Addr) : Prop := (o = none ∧ H' u = some (.tup [.str (Str.ofString "pattern"), .non])) ∨ ∃ p rs, o = some rs ∧ H' u = some (.tup [.str (Str.ofString ""), .ref p]) ∧ RnL H' p rs
def sp_listed : Sp := fun vs H Q _ => ∃ x : V, vs = [x] ∧ ((∃ L, x = .str (tx L) ∧ L.length ≤ 900 ∧ ∀ H' u, Same H H' → ListedIs H' (runsD [] L) u → Q (.ref u) H') ∨ (NoTxE H x ∧ ∀ H' u, Same H H' → H' u = some (.tup [.str (Str.ofString "pattern"), .non]) → Q (.ref u) H'))
theorem ok_listed (T : Env fa fn K mg) : Good P w K mg base CX0 4 ("_law_listed", none) ["_law_thing"] sp_listed := by
  have GX_read_runs := okX_read (P := P) (w := w) (base := base) T
  have GE_w_word := okE_wordX (P := P) (w := w) (base := base) T
  refine good_mk T 57 (d := d_w_listed) (N := ["_law_thing", "_law_found", "_law_e"]) (ps := ["_law_thing"]) rfl rfl sc_w_listed (fun _ _ _ _ _ _ us hl => match us, hl with | [_], _ => rfl) (fun vs H Q E h => ?_) (fun f cdv A outer σ0 H vs Q E hr h => ?_)
  · obtain ⟨x, rfl, _⟩ := h; rfl
  · obtain ⟨x, rfl, h⟩ := h
    refine ⟨_, (pss_cons (ps_tryA K rfl (i := 2) rfl rfl sc_w_listed.nd rfl rfl ⟨rfl, by decide, .inl (T.glo 78)⟩ takes0N (fun W pn xe tk pw => (pss_one (ps_set (i := 1) sc_w_listed.nd rfl (Or.inl rfl) (pe_cgX K rfl tk GX_read_runs (hr.mono (by decide)) (T.glo 51) (pa_cons (pv 0) pa_nil)))))
      (fun a oe cls d pn hz hf => (pss_one (ps_ret (pe_tup (pa_cons (pe_callE K rfl GE_w_word (roomH_suite hr (by decide)) hf List.mem_cons_self (L2N.Zn.zc hz) (T.glo 80) (pa_cons (pv 2) pa_nil)) (pa_cons pe_non pa_nil)))))))
      (pss_one (ps_ret (pe_tup (pa_cons pe_str (pa_cons (pv 1) pa_nil)))))), ?_⟩
    walk_at "rd"
    refine rd_tryA ?_
    walk_at "rd"
    refine rd_callS ?_
    walk_at "rd"
    rcases h with ⟨L, rfl, hL, k⟩ | ⟨hx, kx⟩
    · refine ⟨_, rfl, .inl ⟨L, rfl, hL, fun rs hrs p ts H1 hp s1 L1 R1 => ?_, fun hn H1 s1 => ?_⟩⟩
      · walk_at "rd"
        refine rd_new (hn := by show 2 ≤ sizeLine; decide) fun u hu => ?_
        have s2 := same_upd (o := HO.tup [V.str (Str.ofString ""), V.ref p]) hu
        exact k _ u (s1.trans s2) (.inr ⟨p, rs, hrs, upd_same, RnL.same ⟨ts, L1, R1⟩ s2⟩)
      · refine wAs_yes (T.exm (List.mem_of_getElem? (i := 44) rfl)) fun e he => ?_
        walk_at "rd"
        refine rd_callE ?_
        walk_at "rd"
        refine ⟨Str.ofString "NoPattern", Str.ofString "pattern", List.mem_of_getElem? pf_words.2, rfl, rfl, rfl, fun H2 s2 => ?_⟩
        walk_at "rd"
        refine rd_new (hn := by show 2 ≤ sizeLine; decide) fun u hu => ?_
        exact k _ u (s1.trans (s2.trans (same_upd hu))) (.inl ⟨hn, upd_same⟩)
    · refine ⟨_, rfl, .inr ⟨hx, fun H1 s1 => ?_⟩⟩
      refine wAs_yes (T.exm (List.mem_of_getElem? (i := 44) rfl)) fun e he => ?_
      walk_at "rd"
      refine rd_callE ?_
      walk_at "rd"
      refine ⟨Str.ofString "NoPattern", Str.ofString "pattern", List.mem_of_getElem? pf_words.2, rfl, rfl, rfl, fun H2 s2 => ?_⟩
      walk_at "rd"
      refine rd_new (hn := by show 2 ≤ sizeLine; decide) fun u hu => ?_
      exact kx _ u (s1.trans (s2.trans (same_upd hu))) upd_same
def sp_sameRuns : Sp := fun vs H Q _ => ∃ (p q : Addr) (rs : List Rn), vs = [.ref p, .ref q] ∧ RnL H p rs ∧ RnL H q rs ∧ (∀ r ∈ rs, RnW r) ∧ ∀ H', Q (.bl true) H'
set_option maxHeartbeats 4000000 in
theorem ok_sameRuns (T : Env fa fn K mg) : Good P w K mg base CX0 2 ("_law_same_runs", none) ["_law_found", "_law_due"] sp_sameRuns := by
  have G_w_whole := ok_wholeI (P := P) (w := w) (base := base) T
  refine good_mk T 58 (d := d_w_same_runs) (N := ["_law_found", "_law_due", "_law_one", "_law_other"]) (ps := ["_law_found", "_law_due"]) rfl rfl sc_w_same_runs (fun _ _ _ _ _ _ us hl => match us, hl with | [_, _], _ => rfl) (fun vs H Q E h => ?_) (fun f cdv A outer σ0 H vs Q E hr h => ?_)
  · obtain ⟨p, q, rs, rfl, _⟩ := h; rfl
  · obtain ⟨p, q, rs, rfl, ⟨ts, hp, hT⟩, ⟨us, hq, hU⟩, hw, k⟩ := h
    have tl := hT.1
    have ul := hU.1
    refine ⟨_, (pss_cons (ps_if (PW.pt (pw_or (pt_not (pt_val (pe_callB (call_isiK K rfl) (by rfl) (T.free 1) (by decide +kernel) (pa_cons (pv 0) (pa_cons (pe_bltn (v := V.ty "list") rfl (T.free 81) (by decide +kernel) rfl) pa_nil))))) (pw_or1 (pt_cmpR op_ne (pe_callB (call_lenK K rfl) (by rfl) (T.free 4) (by decide +kernel) (pa_cons (pv 0) pa_nil)) (pe_callB (call_lenK K rfl) (by rfl) (T.free 4) (by decide +kernel) (pa_cons (pv 1) pa_nil)) (nomark _))))) (pss_one (ps_ret pe_bl)) pss_nil)
      (pss_cons (ps_for PassesOwn.never rfl (pi_zip (by rfl) (T.free 82) (pa_cons (pv 0) (pa_cons (pv 1) pa_nil))) (pg_tup rfl (pgs_cons (pg_name (i := 2) sc_w_same_runs.nd rfl (Or.inl rfl)) (pgs_cons (pg_name (i := 3) sc_w_same_runs.nd rfl (Or.inl rfl)) pgs_nil))) (pss_one (ps_if (PW.pt (pw_or (pt_not (pt_val (pe_callB (call_isiK K rfl) (by rfl) (T.free 1) (by decide +kernel) (pa_cons (pv 2) (pa_cons (pe_bltn (v := V.ty "tuple") rfl (T.free 83) (by decide +kernel) rfl) pa_nil))))) (pw_or (pt_cmpR op_ne (pe_callB (call_lenK K rfl) (by rfl) (T.free 4) (by decide +kernel) (pa_cons (pv 2) pa_nil)) pe_int (nomark _)) (pw_or (pt_not (pt_val (pe_cgK K rfl G_w_whole (hr.mono (by decide)) (T.glo 57) (pa_cons (pe_ix (ix_tupK K rfl) (pv 2) pe_int (fun _ _ => rfl)) pa_nil)))) (pw_or1 (pt_cmpR (op_neDK K rfl hr.units) (pv 2) (pv 3) (nomark _))))))) (pss_one (ps_ret pe_bl)) pss_nil)))
      (pss_one (ps_ret pe_bl)))), ?_⟩
    walk_at "rd"
    refine isi_ty (.base (.lst hp)) (by decide +kernel : kitB "list" "list" = some true) ?_
    walk_at "rd"
    refine rd_len (SqL.of hp) ?_
    walk_at "rd"
    refine rd_len (SqL.of hq) ?_
    walk_at "rd"
    rw [List.length_map, List.length_map, tl, ul, decide_eq_true rfl]
    walk_at "rd"
    refine ⟨p, q, _, _, rfl, SqL.of hp, SqL.of hq, ?_⟩
    refine for_it (walk_zip (K := K) (n := rs.length) (a := p) (b := q) (xs := ts.map V.ref) (ys := us.map V.ref) (by rw [List.length_map, List.length_map, tl, ul, Nat.min_self])) (fun i σ H' => Same H H' ∧ ∃ x2 x3 : Option V, σ = [some (.ref p), some (.ref q), x2, x3]) ⟨Same.refl _, none, none, rfl⟩ (fun i σ H' _ h => ⟨SqL.of (h.1 _ _ hp), SqL.of (h.1 _ _ hq)⟩) ?_ ?_
    · rintro i v σ H1 H2 hi ⟨s1, x2, x3, rfl⟩ ⟨T', x, y, rfl, hT', rfl, hx, hy⟩
      have hri := at_get hi
      have ht0 := at_get (show i < ts.length by omega)
      have hu0 := at_get (show i < us.length by omega)
      have ht1 := hT.2 i _ _ ht0 hri
      have hu1 := hU.2 i _ _ hu0 hri
      have hwr := hw _ (List.mem_of_getElem? hri)
      have hx' : (ts.map V.ref)[i]? = some x := hx
      have hy' : (us.map V.ref)[i]? = some y := hy
      rw [List.getElem?_map, ht0] at hx'
      rw [List.getElem?_map, hu0] at hy'
      cases hx'
      cases hy'
      clear hx hy
      generalize ts[i] = t at *
      generalize us[i] = u at *
      generalize rs[i] = r at *
      obtain ⟨n, c⟩ := r
      have s2 := same_upd (o := HO.tup [V.ref t, V.ref u]) hT'
      have hT2 : (upd H1 T' (HO.tup [V.ref t, V.ref u])) T' = some (.tup [V.ref t, V.ref u]) := upd_same
      have ht2 : (upd H1 T' (HO.tup [V.ref t, V.ref u])) t = some (.tup [.int (n : Int), .str (tx [c])]) := s2 _ _ (s1 _ _ ht1)
      have hu2 : (upd H1 T' (HO.tup [V.ref t, V.ref u])) u = some (.tup [.int (n : Int), .str (tx [c])]) := s2 _ _ (s1 _ _ hu1)
      have s12 := s1.trans s2
      generalize upd H1 T' (HO.tup [V.ref t, V.ref u]) = H3 at *
      walk_at "rd"
      refine rd_isiT ht2 ?_
      walk_at "rd"
      refine rd_lenT (SqT.of ht2) ?_
      walk_at "rd"
      refine iteF ?_
      walk_at "rd"
      refine ⟨_, rfl, ?_⟩
      walk_at "rd"
      refine rd_neIS ht2 hu2 (low_sign hwr.2).ok ?_
      walk_at "rd"
      exact ⟨s12, _, _, rfl⟩
    · rintro σ H1 ⟨s1, x2, x3, rfl⟩
      walk_at "rd"
      exact k H1
def sp_right (K : PySem.W.Frag) : Sp := fun vs H Q _ => ∃ (a : GA) (rows : List (Int × Addr)) (q : List Sq) (L : List Nat) (x : V), vs = [.ref a.g, .str (tx L), x] ∧ GAt (CG K) H a rows q ∧ TabsN (tabsN K) H ∧ L.length ≤ 200 ∧ Low L ∧ cntS L ≤ 9 ∧ q.length ≤ 7000000 ∧ (x = .str (tx L) ∨ ThingIs H (a.muts rows) L x) ∧
  ∀ H' rows' q', FStep (CG K) H a rows q H' rows' q' → TabsN (tabsN K) H' → q'.length ≤ q.length + 3000000 → Q (.bl true) H'
set_option maxHeartbeats 8000000 in
theorem ok_right (T : Env fa fn K mg) (TB : ∀ p ∈ tfs, TabB base mg (He.codeOf K p) (He.tabOf K (He.codeOf K p))) : Good P w K mg base CX0 99 ("_law_right", none) ["_law_grove", "_law_text", "_law_thing"] (sp_right K) := by
  have G_w_field := ok_fieldE (P := P) (w := w) (base := base) T TB
  have G_w_read := ok_readL (P := P) (w := w) (base := base) T
  have G_w_strips := ok_stripsR (P := P) (w := w) (base := base) T
  have G_w_leaves := ok_leavesY (P := P) (w := w) (base := base) T
  have G_w_has := ok_has (P := P) (w := w) (base := base) T
  refine good_mk T 59 (d := d_w_right) (N := ["_law_grove", "_law_text", "_law_thing", "_law_word_here", "_law_found", "_law_told", "_law_due"]) (ps := ["_law_grove", "_law_text", "_law_thing"]) rfl rfl sc_w_right (fun _ _ _ _ _ _ us hl => match us, hl with | [_, _, _], _ => rfl) (fun vs H Q E h => ?_) (fun f cdv A outer σ0 H vs Q E hr h => ?_)
  · obtain ⟨a, rows, q, L, x, rfl, _⟩ := h; rfl
  · obtain ⟨a, rows, q, L, x, rfl, G, tabs, hL, hlow, hcnt, hq, hx, k⟩ := h
    refine ⟨_, (pss_cons (ps_asg (pe_cgK K rfl G_w_field (hr.mono (by decide)) (T.glo 84) (pa_cons (pv 0) (pa_cons (pv 2) pa_nil))) (pg_tup rfl (pgs_cons (pg_name (i := 3) sc_w_right.nd rfl (Or.inl rfl)) (pgs_cons (pg_name (i := 4) sc_w_right.nd rfl (Or.inl rfl)) pgs_nil))))
      (pss_cons (ps_set (i := 5) sc_w_right.nd rfl (Or.inl rfl) (pe_cgK K rfl G_w_read (hr.mono (by decide)) (T.glo 85) (pa_cons (pv 1) pa_nil)))
      (pss_cons (ps_if (PW.pt (pw_or (pt_cmpR op_isN (pv 5) pe_non (nomark _)) (pw_or1 (pt_cmpR (op_neX K rfl hr.units) (pv 2) (pv 1) (nomark _))))) (pss_one (ps_ret (pe_cmpR op_eq (pv 3) pe_str (nomark _)))) pss_nil)
      (pss_cons (ps_set (i := 6) sc_w_right.nd rfl (Or.inl rfl) (pe_cgK K rfl G_w_strips (hr.mono (by decide)) (T.glo 86) (pa_cons (pe_ix (ix_tupK K rfl) (pv 5) pe_int (fun _ _ => rfl)) (pa_cons (pe_ix (ix_tupK K rfl) (pv 5) pe_int (fun _ _ => rfl)) (pa_cons (pe_ix (ix_tupK K rfl) (pv 5) pe_int (fun _ _ => rfl)) pa_nil)))))
      (pss_cons (ps_if (pt_val (pe_cgK K rfl G_w_leaves (hr.mono (by decide)) (T.glo 87) (pa_cons (pv 6) pa_nil))) (pss_one (ps_ret (pe_cmpR op_eq (pv 3) pe_str (nomark _)))) pss_nil)
      (pss_one (ps_ret (pe_and (pe_cmpR op_eq (pv 3) pe_str (nomark _)) (pe_one (pe_cgK K rfl G_w_has (hr.mono (by decide)) (T.glo 88) (pa_cons (pv 0) (pa_cons (pv 4) (pa_cons (pv 6) pa_nil))))))))))))), ?_⟩
    walk_at "rd"
    rcases hx with rfl | th
    · refine ⟨a, rows, q, _, rfl, G, tabs, .inr ⟨L, rfl, by omega, by omega, fun hn H1 r1 q1 u F1 t1 l1 hu => ?_, fun left top rs hs => ?_⟩⟩
      · walk_at "rd"
        refine ⟨L, rfl, by omega, fun H2 x2 s2 hx2 => ?_⟩
        rcases hx2 with ⟨_, rfl⟩ | ⟨_, _, _, _, _, e, _⟩
        rotate_left
        · rw [hn] at e; cases e
        walk_at "rd"
        rw [decide_eq_true rfl]
        walk_at "rd"
        rw [decide_eq_true rfl]
        exact k H2 r1 q1 (F1.trans (FStep.ext (F1.gat.same s2) (ExtN.of s2) fun b e => none_ofW2 s2 e)) (tabs_same t1 s2) (by omega)
      · obtain ⟨hw, hrl⟩ := patD_runs hs
        obtain ⟨SS, hSS⟩ : ∃ SS, SS = strips left left top rs := ⟨_, rfl⟩
        have hw' : ∀ r ∈ rs, RnW r := fun r m => (hw r m).1
        have lSS : SS.length ≤ 9 := by rw [hSS]; exact Nat.le_trans strips_len (by omega)
        have mSS := Nat.mul_le_mul_right (8820 * 37 + 6000) lSS
        have hst : ∀ s ∈ SS, 1 ≤ s.2.2.1 ∧ 1 ≤ s.2.2.2 ∧ s.2.2.2 ≤ 7 := fun s m => by
          rw [hSS] at m
          obtain ⟨a1, a2, a3, _⟩ := strips_st hw' s m
          exact ⟨a1, a2, a3⟩
        have pw : SS.Pairwise SLt := by rw [hSS]; exact strips_pw hw'
        rw [← hSS]
        refine ⟨37, .inr (by omega), by omega, fun H1 r1 q1 u F1 t1 l1 hh => ?_⟩
        obtain ⟨x4, word, hu, hcase⟩ : ∃ (x4 : V) (word : Str), H1 u = some (.tup [.str word, x4]) ∧ (((∃ s ∈ SS, ¬ StripIn s) ∧ word = Str.ofString "far") ∨ ((∀ s ∈ SS, StripIn s) ∧ word = Str.ofString "" ∧ ∃ (m : Nat) (T : Sq), x4 = .int (m : Int) ∧ q1[m]? = some T ∧ 1 ≤ T.level ∧ T.level ≤ 41 ∧ T.Least ∧ ∀ u v, T.val u v = layS (fun _ _ => 0) SS u v)) := by
          rcases hh with ⟨bad, hu⟩ | ⟨hin, m, T, hu, e⟩
          · exact ⟨_, _, hu, .inl ⟨bad, rfl⟩⟩
          · exact ⟨_, _, hu, .inr ⟨hin, rfl, m, T, rfl, e⟩⟩
        clear hh
        walk_at "rd"
        refine ⟨L, rfl, by omega, fun H2 x2 s2 hx2 => ?_⟩
        rcases hx2 with ⟨e, rfl⟩ | ⟨t2, p2, l', tp', rs', e, rfl, ht2n, hp2n, ht2, hRn⟩
        · rw [hs] at e; cases e
        rw [hs] at e
        cases e
        have F2 := F1.trans (FStep.ext (F1.gat.same s2) (ExtN.of s2) fun b e => none_ofW2 s2 e)
        have tb2 := tabs_same t1 s2
        walk_at "rd"
        rw [decide_eq_false (show ¬ V.ref t2 = V.non from fun z => by cases z)]
        walk_at "rd"
        refine neX_str hlow ?_
        walk_at "rd"
        refine ⟨left, top, p2, rs, rfl, hRn, hw', by omega, fun H3 u3 s3 hu3 T3 => ?_⟩
        rw [← hSS] at T3
        have F3 := F2.trans (FStep.ext (F2.gat.same s3) (ExtN.of s3) fun b e => none_ofW2 s3 e)
        have tb3 := tabs_same tb2 s3
        walk_at "rd"
        refine ⟨u3, SS, rfl, T3, fun s m => (hst s m).1, fun b hb => ?_⟩
        rcases hcase with ⟨bad, rfl⟩ | ⟨hin, rfl, m, T, rfl, e1, g1, g2, g3, gv⟩
        · have eb : b = true := hb.mpr bad
          subst eb
          walk_at "rd"
          rw [decide_eq_true rfl]
          exact k H3 r1 q1 F3 tb3 (by omega)
        · have eb : b = false := by
            cases b with
            | false => rfl
            | true =>
              obtain ⟨s, m, z⟩ := hb.mp rfl
              exact absurd (hin s m) z
          subst eb
          walk_at "rd"
          rw [decide_eq_true rfl]
          walk_at "rd"
          refine ⟨a, r1, q1, m, T, u3, SS, rfl, F3.gat, e1, g3, g1, g2, by omega, T3, fun s ms => ⟨(hst s ms).1, (hst s ms).2.1, (hst s ms).2.2, hin s ms⟩, pw, by omega, gv, fun H4 s4 => ?_⟩
          exact k H4 r1 q1 (F3.trans (FStep.ext (F3.gat.same s4) (ExtN.of s4) fun b e => none_ofW2 s4 e)) (tabs_same tb3 s4) (by omega)
    · refine ⟨a, rows, q, x, rfl, G, tabs, .inl ⟨th.noTx, fun H1 u s1 hu => ?_⟩⟩
      have th1 := th.same s1
      have F1 : FStep (CG K) H a rows q H1 rows q := FStep.ext (G.same s1) (ExtN.of s1) fun b e => none_ofW2 s1 e
      have tb1 := tabs_same tabs s1
      walk_at "rd"
      refine ⟨L, rfl, by omega, fun H2 x2 s2 hx2 => ?_⟩
      have F2 := F1.trans (FStep.ext (F1.gat.same s2) (ExtN.of s2) fun b e => none_ofW2 s2 e)
      have tb2 := tabs_same tb1 s2
      rcases hx2 with ⟨_, rfl⟩ | ⟨t2, p2, l', tp', rs', e, rfl, ht2n, hp2n, ht2, hRn⟩
      · walk_at "rd"
        rw [decide_eq_true rfl]
        walk_at "rd"
        rw [decide_eq_true rfl]
        exact k H2 rows q F2 tb2 (by omega)
      · walk_at "rd"
        rw [decide_eq_false (show ¬ V.ref t2 = V.non from fun z => by cases z)]
        walk_at "rd"
        refine (th1.same s2).ne hlow hlow ?_
        walk_at "rd"
        rw [decide_eq_true rfl]
        exact k H2 rows q F2 tb2 (by omega)
end
end JF

/-! ### law k84: the law -/
namespace JF
open PySem PySem.Spec PyProof.Rows L2 NdefX LamX
theorem flat_txW : ∀ {WS : List (List Nat)}, (∀ W ∈ WS, TxW W 14 1) → TxW WS.flatten (14 * WS.length) WS.length
  | [], _ => ⟨Nat.le_refl _, Nat.le_refl _, fun c m => by cases m⟩
  | W :: WS, h => by
    have ih := flat_txW fun V m => h V (List.mem_cons_of_mem _ m)
    have := (h W List.mem_cons_self).app ih
    rw [List.flatten_cons, List.length_cons]
    exact this.mono (by omega) (by omega)
theorem ThingIs.to {H : Hp} {M : List Addr} {L : List Nat} {x : V} (h : ThingIs H [] L x) (n : ∀ p ∈ M, H p = none) : ThingIs H M L x := by
  rcases h with rfl | rfl | rfl | ⟨p, rfl, hp, _⟩ | ⟨p, rfl, hp⟩ | ⟨p, rfl, hp, _⟩
  · exact .inl rfl
  · exact .inr (.inl rfl)
  · exact .inr (.inr (.inl rfl))
  · exact .inr (.inr (.inr (.inl ⟨_, rfl, hp, fun m => by rw [n p m] at hp; cases hp⟩)))
  · exact .inr (.inr (.inr (.inr (.inl ⟨_, rfl, hp⟩))))
  · exact .inr (.inr (.inr (.inr (.inr ⟨_, rfl, hp, fun m => by rw [n p m] at hp; cases hp⟩))))
theorem me_dnewK : MonE tDNewK := fun σ H Q Q' h q p hp => h _ _ (q p hp)
theorem mm_insert : MonM fun x vs H Q => ∃ (l : Addr) (xs : List V) (i : Int) (y : V), x = .ref l ∧ vs = [.int i, y] ∧ H l = some (.lst xs) ∧ xs.length < sizeLine ∧ 0 ≤ i ∧ i < 2 ^ 63 ∧ Q .non (upd H l (.lst (xs.take i.toNat ++ [y] ++ xs.drop i.toNat))) := fun x y H Q Q' h ⟨l, xs, i, z, e1, e2, e3, e4, e5, e6, q⟩ => ⟨l, xs, i, z, e1, e2, e3, e4, e5, e6, h _ _ q⟩
section
variable {P : Program} {w : World} {K : PySem.W.Frag} {mg : Str → Option Value} {base : Heap}
theorem ok_mixK (T : Env fa fn K mg) : Good P w K mg base CX0 1 ("_law_mix", none) ["_law_cell", "_law_k"] sp_mixW := by
  refine good_mk T 37 (d := d_w_mix) (N := ["_law_cell", "_law_k", "_law_value"]) (ps := ["_law_cell", "_law_k"]) rfl rfl sc_w_mix (fun _ _ _ _ _ _ us hl => match us, hl with | [_, _], _ => rfl) (fun vs H Q E h => ?_) (fun f cdv A outer s H vs Q E hr h => ?_)
  · obtain ⟨c, k, rfl, _⟩ := h; rfl
  · obtain ⟨c, k, rfl, k0, k1, q⟩ := h
    refine ⟨_, (pss_cons (ps_set (i := 2) sc_w_mix.nd rfl (Or.inl rfl) (pe_op op_add (pe_op op_add (pe_op op_mod (pv 0) pe_int) (pe_op op_mulW pe_int (pv 1))) pe_int))
      (pss_cons (ps_set (i := 2) sc_w_mix.nd rfl (Or.inl rfl) (pe_op op_mod (pe_op op_mulW (pv 2) (pe_op op_add pe_int (pe_op op_mulW pe_int (pv 1)))) pe_int))
      (pss_one (ps_ret (pe_op op_mod (pe_op op_mulW (pe_op op_add (pe_op op_fdivW (pv 2) pe_int) (pe_op op_mulW (pv 2) pe_int)) pe_int) pe_int))))), ?_⟩
    walk_at "rd"
    refine rd_I (mulP (by decide) (by decide) k0 (by omega)) ?_
    walk_at "rd"
    have z0 := Int.emod_nonneg c (show (2305843009213693951 : Int) ≠ 0 by decide)
    have z1 := Int.emod_lt_of_pos c (show (0 : Int) < 2305843009213693951 by decide)
    generalize c % 2305843009213693951 = z at *
    refine rd_I (mulP (by decide) (by decide) k0 (by omega)) ?_
    walk_at "rd"
    refine rd_I (mulP (by omega) (by omega) (by omega) (by omega)) ?_
    walk_at "rd"
    generalize (z + 101 * k + 7) * (636413622384679301 + 2 * k) = u
    have y0 := Int.emod_nonneg u (show (2305843009213693951 : Int) ≠ 0 by decide)
    have y1 := Int.emod_lt_of_pos u (show (0 : Int) < 2305843009213693951 by decide)
    generalize u % 2305843009213693951 = y at *
    refine rd_I (mulP (by omega) (by omega) (by decide) (by decide)) ?_
    walk_at "rd"
    refine rd_I (mulP (by omega) (by omega) (by decide) (by decide)) ?_
    walk_at "rd"
    exact q _ (Int.emod_nonneg _ (by decide)) (Int.emod_lt_of_pos _ (by decide))
def lawLevel : Nat := 112
set_option maxHeartbeats 16000000 in
theorem ok_law (T : Env fa fn K mg) (TB : ∀ p ∈ tfs, TabB base mg (He.codeOf K p) (He.tabOf K (He.codeOf K p))) : Good P w K mg base CX0 lawLevel ("law", none) ["_law_script"] (sp_lawT K) := by
  have G_Grove_init := ok_ginit (P := P) (w := w) (base := base) T
  have G_w_at := ok_at (P := P) (w := w) (base := base) T
  have G_w_mix := ok_mixK (P := P) (w := w) (base := base) T
  have G_w_run_by := ok_runBy (P := P) (w := w) (base := base) T
  have G_w_odd_run := ok_oddRun (P := P) (w := w) (base := base) T
  have G_w_number_by := ok_numBy (P := P) (w := w) (base := base) T
  have G_w_sign_by := ok_signBy (P := P) (w := w) (base := base) T
  have G_w_spoiled := ok_spoiled (P := P) (w := w) (base := base) T
  have G_w_runs := ok_runsL (P := P) (w := w) (base := base) T
  have G_w_listed := ok_listed (P := P) (w := w) (base := base) T
  have G_w_same_runs := ok_sameRuns (P := P) (w := w) (base := base) T
  have G_w_right := ok_right (P := P) (w := w) (base := base) T TB
  refine good_mk T 60 (d := d_law) (N := ["_law_script", "_law_words", "_law_k", "_law_text", "_law_thing", "_law_grove", "_law_body", "_law_due", "_law_word_here", "_law_found"]) (ps := ["_law_script"]) rfl rfl sc_law (fun _ _ _ _ _ _ us hl => match us, hl with | [_], _ => rfl) (fun vs H Q E h => ?_) (fun f cdv A outer σ0 H vs Q E hr h => ?_)
  · obtain ⟨a, ns, rfl, _⟩ := h; rfl
  · obtain ⟨a0, ns, rfl, hS, hlen, tabs, k⟩ := h
    have hu := hu_of hr
    have hsz := sizeBig
    refine ⟨_, (pss_cons (ps_set (i := 1) sc_law.nd rfl (Or.inl rfl) (pe_lst pa_nil))
      (pss_cons (ps_for PassesOwn.never rfl (pi_range1 (by rfl) (T.free 65) (pa_cons (pe_op op_mod (pe_cgK K rfl G_w_at (hr.mono (by decide)) (T.glo 89) (pa_cons (pv 0) (pa_cons pe_int pa_nil))) pe_int) pa_nil)) (pg_name (i := 2) sc_law.nd rfl (Or.inl rfl)) (pss_one (ps_expr (pe_bm PySem.F.plainAttrs_list PySem.F.slot_list_append PySem.F.type_list_append mt_append (pv 1) (pa_cons (pe_cgK K rfl G_w_run_by (hr.mono (by decide)) (T.glo 90) (pa_cons (pe_cgK K rfl G_w_mix (hr.mono (by decide)) (T.glo 91) (pa_cons (pe_cgK K rfl G_w_at (hr.mono (by decide)) (T.glo 89) (pa_cons (pv 0) (pa_cons (pe_op op_add pe_int (pv 2)) pa_nil))) (pa_cons (pe_op op_add pe_int (pv 2)) pa_nil))) pa_nil)) pa_nil)))))
      (pss_cons (ps_if (pt_cmpR op_eq (pe_op op_mod (pe_op op_fdivW (pe_cgK K rfl G_w_at (hr.mono (by decide)) (T.glo 89) (pa_cons (pv 0) (pa_cons pe_int pa_nil))) pe_int) pe_int) pe_int (nomark _)) (pss_one (ps_expr (pe_bm PySem.F.plainAttrs_list PySem.F.slot_list_insert PySem.F.type_list_insert mt_insert (pv 1) (pa_cons (pe_op op_mod (pe_op op_fdivW (pe_cgK K rfl G_w_at (hr.mono (by decide)) (T.glo 89) (pa_cons (pv 0) (pa_cons pe_int pa_nil))) pe_int) (pe_op op_add (pe_callB (call_lenK K rfl) (by rfl) (T.free 4) (by decide +kernel) (pa_cons (pv 1) pa_nil)) pe_int)) (pa_cons (pe_cgK K rfl G_w_odd_run (hr.mono (by decide)) (T.glo 92) (pa_cons (pe_cgK K rfl G_w_mix (hr.mono (by decide)) (T.glo 91) (pa_cons (pe_cgK K rfl G_w_at (hr.mono (by decide)) (T.glo 89) (pa_cons (pv 0) (pa_cons pe_int pa_nil))) (pa_cons pe_int pa_nil))) pa_nil)) pa_nil))))) pss_nil)
      (pss_cons (ps_set (i := 3) sc_law.nd rfl (Or.inl rfl) (pe_op op_add_str (pe_op op_add_str (pe_op op_add_str (pe_op op_add_str (pe_cgK K rfl G_w_number_by (hr.mono (by decide)) (T.glo 93) (pa_cons (pe_cgK K rfl G_w_at (hr.mono (by decide)) (T.glo 89) (pa_cons (pv 0) (pa_cons pe_int pa_nil))) pa_nil)) pe_str) (pe_cgK K rfl G_w_number_by (hr.mono (by decide)) (T.glo 93) (pa_cons (pe_cgK K rfl G_w_at (hr.mono (by decide)) (T.glo 89) (pa_cons (pv 0) (pa_cons pe_int pa_nil))) pa_nil))) pe_str) (pe_join pe_str (pv 1))))
      (pss_cons (ps_set (i := 3) sc_law.nd rfl (Or.inl rfl) (pe_cgK K rfl G_w_spoiled (hr.mono (by decide)) (T.glo 94) (pa_cons (pv 3) (pa_cons (pe_cgK K rfl G_w_mix (hr.mono (by decide)) (T.glo 91) (pa_cons (pe_cgK K rfl G_w_at (hr.mono (by decide)) (T.glo 89) (pa_cons (pv 0) (pa_cons pe_int pa_nil))) (pa_cons pe_int pa_nil))) (pa_cons (pe_cgK K rfl G_w_sign_by (hr.mono (by decide)) (T.glo 95) (pa_cons (pe_cgK K rfl G_w_at (hr.mono (by decide)) (T.glo 89) (pa_cons (pv 0) (pa_cons pe_int pa_nil))) pa_nil)) pa_nil)))))
      (pss_cons (ps_set (i := 4) sc_law.nd rfl (Or.inl rfl) (pv 3))
      (pss_cons (ps_if (pt_cmpR op_eq (pe_op op_mod (pe_cgK K rfl G_w_at (hr.mono (by decide)) (T.glo 89) (pa_cons (pv 0) (pa_cons pe_int pa_nil))) pe_int) pe_int (nomark _)) (pss_one (ps_set (i := 4) sc_law.nd rfl (Or.inl rfl) (pe_ix (ix_listK K rfl) (pe_lst (pa_cons pe_non (pa_cons pe_int (pa_cons pe_bl (pa_cons (pe_lst (pa_cons (pv 3) pa_nil)) (pa_cons (pe_tup (pa_cons (pv 3) (pa_cons (pv 3) pa_nil))) (pa_cons pe_dnewK pa_nil))))))) (pe_op op_mod (pe_cgK K rfl G_w_at (hr.mono (by decide)) (T.glo 89) (pa_cons (pv 0) (pa_cons pe_int pa_nil))) pe_int) (fun _ _ => rfl)))) pss_nil)
      (pss_cons (ps_set (i := 5) sc_law.nd rfl (Or.inl rfl) (pe_mk0K K rfl (T.mkr 96) G_Grove_init (hr.mono (by decide)) (T.glo 97)))
      (pss_cons (ps_if (PW.pt (pw_or (pt_not (pt_val (pe_cgK K rfl G_w_right (hr.mono (by decide)) (T.glo 98) (pa_cons (pv 5) (pa_cons (pv 3) (pa_cons (pv 4) pa_nil)))))) (pw_or1 (pt_not (pt_val (pe_cgK K rfl G_w_right (hr.mono (by decide)) (T.glo 98) (pa_cons (pv 5) (pa_cons (pv 3) (pa_cons (pv 4) pa_nil))))))))) (pss_one (ps_ret pe_bl)) pss_nil)
      (pss_cons (ps_set (i := 6) sc_law.nd rfl (Or.inl rfl) (pe_ix (ix_tupK K rfl) (pe_partition (pv 3) pe_str) pe_int (fun _ _ => rfl)))
      (pss_cons (ps_set (i := 7) sc_law.nd rfl (Or.inl rfl) (pe_cgK K rfl G_w_runs (hr.mono (by decide)) (T.glo 63) (pa_cons (pv 6) pa_nil)))
      (pss_cons (ps_if (pt_cmpR (op_neX K rfl hr.units) (pv 4) (pv 3) (nomark _)) (pss_one (ps_ret (pe_cmpR op_eq (pe_ix (ix_tupK K rfl) (pe_cgK K rfl G_w_listed (hr.mono (by decide)) (T.glo 99) (pa_cons (pv 4) pa_nil)) pe_int (fun _ _ => rfl)) pe_str (nomark _)))) pss_nil)
      (pss_cons (ps_asg (pe_cgK K rfl G_w_listed (hr.mono (by decide)) (T.glo 99) (pa_cons (pv 6) pa_nil)) (pg_tup rfl (pgs_cons (pg_name (i := 8) sc_law.nd rfl (Or.inl rfl)) (pgs_cons (pg_name (i := 9) sc_law.nd rfl (Or.inl rfl)) pgs_nil))))
      (pss_cons (ps_if (pt_cmpR op_isN (pv 7) pe_non (nomark _)) (pss_one (ps_ret (pe_and (pe_cmpR op_eq (pv 8) pe_str (nomark _)) (pe_one (pe_cmpR op_eq (pe_ix (ix_tupK K rfl) (pe_cgK K rfl G_w_listed (hr.mono (by decide)) (T.glo 99) (pa_cons (pv 6) pa_nil)) pe_int (fun _ _ => rfl)) pe_str (nomark _)))))) pss_nil)
      (pss_one (ps_ret (pe_and (pe_cmpR op_eq (pv 8) pe_str (nomark _)) (pe_one (pe_cgK K rfl G_w_same_runs (hr.mono (by decide)) (T.glo 100) (pa_cons (pv 9) (pa_cons (pv 7) pa_nil))))))))))))))))))))), ?_⟩
    walk_at "rd"
    refine rd_new (hn := by show 0 ≤ sizeLine; decide) fun D hD => ?_
    have s1 := same_upd (o := HO.lst []) hD
    have L1 : (upd H D (HO.lst [])) D = some (.lst (([] : List (List Nat)).map fun W => V.str (tx W))) := upd_same
    generalize upd H D (HO.lst []) = H1 at *
    walk_at "rd"
    refine rd_at (sqL_on hS fun o e => s1 _ _ e) (by decide) ?_
    walk_at "rd"
    obtain ⟨m7, hm7⟩ := nat_of (Int.emod_nonneg (atN ns (Int.toNat 6)) (show (7 : Int) ≠ 0 by decide))
    rw [hm7]
    refine ⟨(m7 : Int), rfl, by omega, by omega, ?_⟩
    refine for_it (walk_r0 (n := m7)) (fun i σ H' => ∃ (x2 : Option V) (WS : List (List Nat)), σ = [some (.ref a0), some (.ref D), x2, none, none, none, none, none, none, none] ∧ Same H H' ∧ H' D = some (.lst (WS.map fun W => V.str (tx W))) ∧ WS.length = i ∧ ∀ W ∈ WS, TxW W 14 1) ⟨none, [], rfl, s1, L1, rfl, fun W m => by cases m⟩ (fun _ _ _ _ _ => trivial) ?_ ?_
    · rintro i v σ Ha Hb hi ⟨x2, WS, rfl, s2, L2, lW, hW⟩ ⟨rfl, rfl⟩
      walk_at "rd"
      refine rd_tyL L2 ?_
      walk_at "rd"
      refine rd_at (sqL_on hS fun o e => s2 _ _ e) (by omega) ?_
      walk_at "rd"
      refine ⟨_, 30 + (i : Int), rfl, by omega, by omega, fun z z0 z1 => ?_⟩
      walk_at "rd"
      refine ⟨_, rfl, fun H4 W s4 tW => ?_⟩
      have L4 := s4 _ _ L2
      walk_at "rd"
      refine rd_append L4 (by rw [List.length_map]; exact small1000 (by omega)) ?_
      walk_at "rd"
      refine ⟨_, WS ++ [W], rfl, Same.putW (s2.trans s4) hD, by rw [upd_same, List.map_append]; rfl, by rw [List.length_append, lW]; rfl, fun V m => ?_⟩
      rcases List.mem_append.mp m with m | m
      · exact hW V m
      · rw [List.mem_singleton.mp m]; exact tW
    rintro σ H2 ⟨x2, WS, rfl, s2, L2, lW, hW⟩
    have lW7 : WS.length ≤ 6 := by omega
    clear hm7 lW L1 s1
    walk_at "rhi"
    refine rd_cut (fun σ H' => ∃ WS : List (List Nat), σ = [some (.ref a0), some (.ref D), x2, none, none, none, none, none, none, none] ∧ Same H H' ∧ H' D = some (.lst (WS.map fun W => V.str (tx W))) ∧ WS.length ≤ 7 ∧ ∀ W ∈ WS, TxW W 14 1) (by
      have mp1 := mp_at (K := K)
      have mp2 := mp_mixW
      have mp3 := mp_oddRun
      have mp4 := mm_insert
      walk_at "mono") ?_ ?_
    · walk_at "rd"
      refine rd_at (sqL_on hS fun o e => s2 _ _ e) (by decide) ?_
      walk_at "rd"
      refine ite_d (fun z => ?_) (fun z => ?_)
      · walk_at "rd"
        refine rd_tyL L2 ?_
        walk_at "rd"
        refine rd_at (sqL_on hS fun o e => s2 _ _ e) (by decide) ?_
        walk_at "rd"
        refine rd_len (SqL.of L2) ?_
        walk_at "rd"
        rw [List.length_map]
        have g0 := Int.emod_nonneg (atN ns (Int.toNat 5) / 6) (show ((WS.length : Nat) : Int) + 1 ≠ 0 by omega)
        have g1 := Int.emod_lt_of_pos (atN ns (Int.toNat 5) / 6) (show (0 : Int) < ((WS.length : Nat) : Int) + 1 by omega)
        refine rd_mod (by omega) ?_
        generalize atN ns (Int.toNat 5) / 6 % (((WS.length : Nat) : Int) + 1) = j at *
        walk_at "rd"
        refine rd_at (sqL_on hS fun o e => s2 _ _ e) (by decide) ?_
        walk_at "rd"
        refine ⟨_, 40, rfl, by decide, by decide, fun z z0 z1 => ?_⟩
        walk_at "rd"
        refine ⟨_, rfl, fun H4 W s4 tW => ?_⟩
        have L4 := s4 _ _ L2
        walk_at "rd"
        refine ⟨D, _, j, _, rfl, rfl, L4, by rw [List.length_map]; exact small1000 (by omega), g0, by omega, ?_⟩
        walk_at "rd"
        refine ⟨WS.take j.toNat ++ [W] ++ WS.drop j.toNat, rfl, Same.putW (s2.trans s4) hD, by rw [upd_same, List.map_append, List.map_append, List.map_take, List.map_drop]; rfl, by simp only [List.length_append, List.length_take, List.length_drop, List.length_singleton]; omega, fun V m => ?_⟩
        rcases List.mem_append.mp m with m | m
        · rcases List.mem_append.mp m with m | m
          · exact hW V (List.mem_of_mem_take m)
          · rw [List.mem_singleton.mp m]; exact tW.mono (by decide) (Nat.le_refl _)
        · exact hW V (List.mem_of_mem_drop m)
      · walk_at "rd"
        exact ⟨WS, rfl, s2, L2, by omega, hW⟩
    clear s2 L2 lW7 hW
    rintro σ H3 ⟨WS, rfl, s3, L3, lW, hW⟩
    have tF := (flat_txW hW).mono (k' := 98) (n' := 7) (by omega) lW
    have hS3 := sqL_on hS fun o e => s3 _ _ e
    walk_at "rd"
    refine rd_at hS3 (by decide) ?_
    walk_at "rd"
    refine ⟨_, rfl, fun H4 W1 s4 t1 => ?_⟩
    have hS4 := sqL_on hS3 fun o e => s4 _ _ e
    have l1 := t1.1
    walk_at "rd"
    refine ⟨_, _, rfl, rfl, by rw [tx_comma, tx_len]; show _ + 1 ≤ _; omega, ?_⟩
    rw [tx_comma, tx_app]
    walk_at "rd"
    refine rd_at hS4 (by decide) ?_
    walk_at "rd"
    refine ⟨_, rfl, fun H5 W2 s5 t2 => ?_⟩
    have l2 := t2.1
    refine ⟨_, _, rfl, rfl, by rw [tx_len, tx_len, List.length_append]; show _ + 1 + _ ≤ _; omega, ?_⟩
    rw [tx_app]
    walk_at "rd"
    refine ⟨_, _, rfl, rfl, by rw [tx_colon, tx_len, List.length_append, List.length_append]; show _ + 1 + _ + 1 ≤ _; omega, ?_⟩
    rw [tx_colon, tx_app]
    walk_at "rd"
    refine rd_m1 ?_
    walk_at "rd"
    refine rd_st ?_
    walk_at "rd"
    have s45 := s4.trans s5
    have L5 : H5 D = some (.lst ((WS.map tx).map V.str)) := by
      rw [List.map_map]
      exact s45 _ _ L3
    have lf := tF.1
    refine ⟨_, D, WS.map tx, rfl, rfl, .inl (SqL.of L5), by rw [sum_lens, show (Str.ofString "").length = 0 by decide +kernel]; omega, ?_⟩
    rw [join_flat]
    refine ⟨_, _, rfl, rfl, by rw [tx_len, tx_len]; simp only [List.length_append, List.length_singleton]; omega, ?_⟩
    rw [tx_app]
    have t44 : TxW [44] 1 0 := ⟨by decide, by decide, fun c m => by rw [List.mem_singleton.mp m]; decide⟩
    have t58 : TxW [58] 1 0 := ⟨by decide, by decide, fun c m => by rw [List.mem_singleton.mp m]; decide⟩
    have tA := ((((t1.app t44).app t2).app t58).app tF).mono (k' := 128) (n' := 7) (by decide) (by decide)
    obtain ⟨A, hA⟩ : ∃ A, A = W1 ++ [44] ++ W2 ++ [58] ++ WS.flatten := ⟨_, rfl⟩
    have m44 : 44 ∈ A := by rw [hA]; simp
    have m58 : 58 ∈ A := by rw [hA]; simp
    rw [← hA] at tA ⊢
    have s35 := s3.trans s45
    have tabs5 := tabs_same tabs s35
    have hS5 := sqL_on hS fun o e => s35 _ _ e
    clear hA t44 t58 lf L5 s45 l2 t2 l1 t1 hS4 hS3 tF hW lW L3 s3 s4 s5 hD
    clear WS W1 W2
    walk_at "rd"
    refine rd_at hS5 (by decide) ?_
    walk_at "rd"
    refine ⟨_, 5, rfl, by decide, by decide, fun z5 _ _ => ?_⟩
    walk_at "rd"
    refine rd_at hS5 (by decide) ?_
    walk_at "rd"
    refine ⟨_, rfl, fun d td => ?_⟩
    walk_at "rd"
    refine ⟨A, _, d, 128, 7, rfl, tA, by decide, td, m44, m58, fun H6 L s6 tL => ?_⟩
    clear m44 m58 tA td
    obtain ⟨lL, cL, low⟩ := tL
    have s06 := s35.trans s6
    have tabs6 := tabs_same tabs5 s6
    have hS6 := sqL_on hS5 fun o e => s6 _ _ e
    walk_at "rhi"
    refine rd_cut (fun σ H' => ∃ x : V, σ = [some (.ref a0), some (.ref D), x2, some (.str (tx L)), some x, none, none, none, none, none] ∧ Same H6 H' ∧ (x = .str (tx L) ∨ ThingIs H' [] L x)) (by
      have mp1 := mp_at (K := K)
      have me1 := me_dnewK
      walk_at "mono") ?_ ?_
    · walk_at "rd"
      refine rd_at hS6 (by decide) ?_
      walk_at "rd"
      refine ite_d (fun z => ?_) (fun z => ?_)
      · walk_at "rd"
        refine rd_new (hn := by show 1 ≤ sizeLine; decide) fun p1 hp1 => ?_
        have s7 := same_upd (o := HO.lst [V.str (tx L)]) hp1
        have U1 : (upd H6 p1 (HO.lst [V.str (tx L)])) p1 = some (.lst [V.str (tx L)]) := upd_same
        generalize upd H6 p1 (HO.lst [V.str (tx L)]) = H7 at *
        walk_at "rd"
        refine rd_new (hn := by show 2 ≤ sizeLine; decide) fun p2 hp2 => ?_
        have s8 := same_upd (o := HO.tup [V.str (tx L), V.str (tx L)]) hp2
        have U2 : (upd H7 p2 (HO.tup [V.str (tx L), V.str (tx L)])) p2 = some (.tup [V.str (tx L), V.str (tx L)]) := upd_same
        have U1' := s8 _ _ U1
        have s78 := s7.trans s8
        generalize upd H7 p2 (HO.tup [V.str (tx L), V.str (tx L)]) = H8 at *
        walk_at "rd"
        intro p3 hp3
        have s9 := same_upd (o := HO.dK []) hp3
        have U3 : (upd H8 p3 (HO.dK [])) p3 = some (.dK []) := upd_same
        have U1'' := s9 _ _ U1'
        have U2'' := s9 _ _ U2
        have s79 := s78.trans s9
        generalize upd H8 p3 (HO.dK []) = H9 at *
        walk_at "rd"
        refine rd_new (hn := by show 6 ≤ sizeLine; decide) fun p4 hp4 => ?_
        have s10 := same_upd (o := HO.lst [V.non, V.int 0, V.bl true, V.ref p1, V.ref p2, V.ref p3]) hp4
        have U4 : (upd H9 p4 (HO.lst [V.non, V.int 0, V.bl true, V.ref p1, V.ref p2, V.ref p3])) p4 = some (.lst [V.non, V.int 0, V.bl true, V.ref p1, V.ref p2, V.ref p3]) := upd_same
        have V1 := s10 _ _ U1''
        have V2 := s10 _ _ U2''
        have V3 := s10 _ _ U3
        have s710 := s79.trans s10
        generalize upd H9 p4 (HO.lst [V.non, V.int 0, V.bl true, V.ref p1, V.ref p2, V.ref p3]) = H10 at *
        walk_at "rd"
        refine rd_at (sqL_on hS6 fun o e => s710 _ _ e) (by decide) ?_
        walk_at "rd"
        obtain ⟨x, mx, hx⟩ : ∃ x, x ∈ [V.non, V.int 0, V.bl true, V.ref p1, V.ref p2, V.ref p3] ∧ atI [V.non, V.int 0, V.bl true, V.ref p1, V.ref p2, V.ref p3] (atN ns (Int.toNat 5) % 6) = some x := atI_ex (by omega) (by show _ < (6 : Int); omega)
        refine rd_ixL (SqL.of U4) hx ?_
        walk_at "rd"
        refine ⟨x, rfl, s710, .inr ?_⟩
        simp only [List.mem_cons, List.not_mem_nil, or_false] at mx
        rcases mx with rfl | rfl | rfl | rfl | rfl | rfl
        · exact .inl rfl
        · exact .inr (.inl rfl)
        · exact .inr (.inr (.inl rfl))
        · exact .inr (.inr (.inr (.inl ⟨_, rfl, V1, by simp⟩)))
        · exact .inr (.inr (.inr (.inr (.inl ⟨_, rfl, V2⟩))))
        · exact .inr (.inr (.inr (.inr (.inr ⟨_, rfl, V3, by simp⟩))))
      · walk_at "rd"
        exact ⟨_, rfl, Same.refl _, .inl rfl⟩
    rintro σ H7 ⟨x, rfl, s7, hx⟩
    have tabs7 := tabs_same tabs6 s7
    clear hS6 hS5 hS tabs6 tabs5 tabs s35 s6
    walk_at "rd"
    refine rd_grove fun a H8 G8 hnew s8 => ?_
    have tabs8 := tabs_same tabs7 s8
    have hx8 : x = .str (tx L) ∨ ThingIs H8 (a.muts []) L x := hx.imp id fun h => (h.to hnew).same s8
    walk_at "rd"
    refine ⟨a, [], [], L, x, rfl, G8, tabs8, by omega, low, by omega, by simp, hx8, fun H9 r9 q9 F9 t9 l9 => ?_⟩
    have hx9 : x = .str (tx L) ∨ ThingIs H9 (a.muts r9) L x := hx8.imp id fun h => h.step G8 F9
    simp only [List.length_nil] at l9
    walk_at "rd"
    refine ⟨a, r9, q9, L, x, rfl, F9.gat, t9, by omega, low, by omega, by omega, hx9, fun H10 r10 q10 F10 t10 l10 => ?_⟩
    have hx10 : x = .str (tx L) ∨ ThingIs H10 (a.muts r10) L x := hx9.imp id fun h => h.step F9.gat F10
    walk_at "rd"
    refine rd_m1 ?_
    walk_at "rd"
    refine rd_st ?_
    walk_at "rd"
    refine ⟨_, _, rfl, rfl, rfl, len_ok (by omega), fun p hp => ?_⟩
    obtain ⟨A, zc, B, eP, lA, lB, hP⟩ := part_any L tx_colon
    rw [tx_colon] at eP
    rw [eP]
    have s11 := same_upd (o := HO.tup [V.str (tx A), V.str zc, V.str (tx B)]) hp
    have T1 : (upd H10 p (HO.tup [V.str (tx A), V.str zc, V.str (tx B)])) p = some (.tup [V.str (tx A), V.str zc, V.str (tx B)]) := upd_same
    generalize upd H10 p (HO.tup [V.str (tx A), V.str zc, V.str (tx B)]) = H11 at *
    have hx11 : x = .str (tx L) ∨ ThingIs H11 (a.muts r10) L x := hx10.imp id fun h => h.same s11
    walk_at "rd"
    refine ⟨B, rfl, by omega, fun H12 x12 s12 hx12 => ?_⟩
    walk_at "rd"
    rcases hx11 with rfl | th
    · refine neX_str low ?_
      walk_at "rd"
      refine ⟨_, rfl, .inl ⟨B, rfl, by omega, fun H13 u s13 hu => ?_⟩⟩
      rcases hu with ⟨hn, hu⟩ | ⟨p2, rs, hs, hu, hR⟩
      · walk_at "rd"
        rcases hx12 with ⟨_, rfl⟩ | ⟨_, _, e, _⟩
        rotate_left
        · rw [hn] at e; cases e
        rw [decide_eq_true rfl]
        walk_at "rd"
        rw [decide_eq_true rfl]
        walk_at "rd"
        refine ⟨_, rfl, .inl ⟨B, rfl, by omega, fun H14 u2 s14 hu2 => ?_⟩⟩
        rcases hu2 with ⟨_, hu2⟩ | ⟨_, _, e, _⟩
        rotate_left
        · rw [hn] at e; cases e
        walk_at "rd"
        rw [decide_eq_true rfl]
        exact k H14
      · walk_at "rd"
        rcases hx12 with ⟨e, _⟩ | ⟨p3, rs3, e, rfl, hp3, hR3⟩
        · rw [hs] at e; cases e
        rw [hs] at e
        cases e
        rw [decide_eq_false (show ¬ V.ref p3 = V.non from fun z => by cases z)]
        walk_at "rd"
        rw [decide_eq_true rfl]
        walk_at "rd"
        have hw := (runsD_ok (fun c m => by cases m) hs).1
        exact ⟨p2, p3, rs, rfl, hR, hR3.same s13, fun r m => (hw r m).1, k⟩
    · have th12 := th.same s12
      refine th12.ne low low ?_
      walk_at "rd"
      refine ⟨_, rfl, .inr ⟨th12.noTx, fun H13 u s13 hu => ?_⟩⟩
      walk_at "rd"
      rw [decide_eq_true rfl]
      exact k H13
end
end JF

namespace JF
open PySem PySem.Spec PyProof.Rows L2
/-! ### the head: facts by names, the run; the end, with tables of code objects -/
theorem fn_ofT {P : Program} {w : World} {K : PySem.W.Frag} {mg : Str → Option Value} {k : Nat} {sp : Sp} {f : Addr} (hfa : mg ("law" : Str) = some (.ref f)) (T : Env fa fn K mg)
    (ok : ∀ base : Heap, K.In base → base.Ns mainGlobals mg → (∀ p ∈ tfs, LamX.TabB base mg (He.codeOf K p) (He.tabOf K (He.codeOf K p))) → Good P w K mg base CX0 k ("law", none) ["_law_script"] sp) :
    ∃ fd : FuncData, (∀ (s : Shared) (v : Value), BindsTo s fd ⟨[v], []⟩ [("_law_script", v)]) ∧ ∀ base : Heap, K.In base → base.Ns mainGlobals mg → (∀ p ∈ tfs.map (He.cT K), LamX.TabB base mg p.1 p.2) → FnOk P w K mg base CX0 k f fd ["_law_script"] sp := by
  obtain ⟨fd, F⟩ := T.c.def_ (d := d_law) 60 rfl
  have e := hfa.symm.trans (T.glo 112)
  cases e
  have b := FunD.bindsA (ps := ["_law_script"]) F fun _ _ _ _ _ _ us hl => match us, hl with | [_], _ => rfl
  refine ⟨fd, fun s v => b s [v] rfl, fun base h1 h2 h3 => ?_⟩
  obtain ⟨fd2, F2, _, _, l2⟩ := ok base h1 h2 fun p hp => h3 _ (List.mem_map.mpr ⟨p, hp, rfl⟩)
  cases (fdAt_of (p := ("law", none)) F).eq l2
  exact F2
end JF
open PySem PySem.W PySem.Calls PyProof.Rows
theorem PySem.Challenge.cw_jumpfield_k84_no_pattern_holds : PySem.Challenge.rw_jumpfield_k84_no_pattern.Holds := by
  w_on; o_law
  refine HandSHeadRun.head_any (r := OpenLaw.row PySem.Challenge.rw_jumpfield_k84_no_pattern) (q := view (OpenLaw.row PySem.Challenge.rw_jumpfield_k84_no_pattern).prog [77]) (H := JF.hk) (ob := JF.ob) (M := 100000) (loose := JF.looseN) (d := HandSHeadRun.topDef (OpenLaw.row PySem.Challenge.rw_jumpfield_k84_no_pattern).prog 77) (kwd := []) JF.ob_eq
    (by kernel_rfl) (fun s => by kernel_rfl) JF.run (by kernel_rfl) (by kernel_rfl) (by kernel_rfl) (by rfl) (by first | assumption | decide +kernel) (by decide +kernel) ⟨rfl, rfl, rfl, rfl, rfl, by decide +kernel⟩ ?hw ?hc
  case hw => w_witness2
  case hc =>
    refine JF.walk_ofTE (l := PySem.Challenge.rw_jumpfield_k84_no_pattern) (n := 63) (k := JF.lawLevel) (x := "_law_script") (CX := L2.CX0) rfl (by decide) (by kernel_rfl) ⟨rfl, by decide, by decide⟩ ?F (fun _ _ _ _ z => z)
    intro w mg fa h Y G hmg0
    obtain ⟨K, KX, c⟩ := Y
    have hmg : mg ("law" : PySem.Str) = some (.ref fa) := by
      have e : (HandSHeadRun.topDef (OpenLaw.row PySem.Challenge.rw_jumpfield_k84_no_pattern).prog 77).name = ("law" : PySem.Str) := by kernel_rfl
      rw [← e]
      exact hmg0
    have T : JF.Env JF.fa JF.fn K mg := ⟨c.t.d, ⟨h, KX, G⟩, c.more⟩
    obtain ⟨fd, hb, hF⟩ := JF.fn_ofT (P := (PySem.Challenge.rw_jumpfield_k84_no_pattern).prog) (w := w) hmg T (fun base h1 h2 h3 => JF.ok_law T h3)
    refine ⟨K, KX, fd, JF.tfs.map (He.cT K), JF.sp_lawT K, fun p hp => ?_, fun p hp => ?_, fun p hp => ?_, hb, fun H a ns hl _ hT hS => JF.sp_lawT_in H a ns hl (fun p hp => hT _ (List.mem_map.mpr ⟨p, hp, rfl⟩)) hS, hF⟩
    · obtain ⟨q, hq, rfl⟩ := List.mem_map.mp hp
      exact c.empty q hq
    · obtain ⟨q, hq, rfl⟩ := List.mem_map.mp hp
      exact c.out q hq
    · obtain ⟨q, hq, rfl⟩ := List.mem_map.mp hp
      exact PySem.W.codeHd_of_K KX (c.hd q hq)
#print axioms PySem.Challenge.cw_jumpfield_k84_no_pattern_holds

