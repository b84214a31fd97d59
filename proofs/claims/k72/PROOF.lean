import PyProof.Rows.All
import KE.KStateDown
import HandS.Defaults
import HandS.Head0
import HandS.Head1
import HandS.Head2
import HandS.HeadEnd
import HandS.HeadHook1
import HandS.HeadHook2
import Wide.All
import OpenK.AllK
import Wide.FinOn
import PyProof.EqAt
import PyProof.EqKinds
import PyProof.TupleCall
import KE.KExcSuper
import KE.KExcIs
import KE.KMathG
import HandS.ForMost
import HandS.Exc
import HandS.TryOnly
import HandS.ExcOwn
import HandS.WordsExc
import HandS.ExcField
import HandS.ExcIs
import HandS.IsInst
import HandS.Wide
import HandS.Gcd
import PySem.Challenge.RW_roottower_k72_above_a_square_root
import HandS.Codes
import Flt.RightSqrt
import HandS.Conv
import HandS.TupAny
import HandS.Style
import HandS.HotCalls
set_option Elab.async false
set_option linter.all false
set_option maxRecDepth 100000
set_option maxHeartbeats 4000000
namespace K72
open PySem PySem.W PySem.Calls PyProof.Rows L2
def top (i : Nat) : Stmt := PySem.Challenge.pw_roottower_k72_above_a_square_root.main.body.getD i (.Pass ⟨0, 0, 0, 0⟩)
abbrev sNum : Stmt := L2.inClass (top 5) 0
abbrev sLeast : Stmt := top 33
abbrev sCheckBounds : Stmt := top 9
abbrev sExactRoot : Stmt := top 32
abbrev sPrimePowers : Stmt := top 34
abbrev sSquareFree : Stmt := top 35
abbrev sTwoSquares : Stmt := top 36
abbrev sBarOf : Stmt := top 55
abbrev sTrimmed : Stmt := top 45
abbrev sCheckSize : Stmt := top 10
abbrev sPolyInit : Stmt := inClass (top 41) 0
abbrev sPolyOf : Stmt := top 42
abbrev sCyclicPoly : Stmt := top 54
abbrev sCyclicAbove : Stmt := top 58
abbrev sLawRoot : Stmt := top 63
abbrev sLawSquare : Stmt := top 64
abbrev sLawTwo : Stmt := top 68
abbrev sLawValue : Stmt := top 66
abbrev sLawFind : Stmt := top 70
abbrev sLawFree : Stmt := top 67
abbrev sLawBar : Stmt := top 69
abbrev sLawDisc : Stmt := top 65
abbrev sLawInts : Stmt := top 71
abbrev sLawInt : Stmt := top 62
abbrev sLawAbove : Stmt := top 72
abbrev sLawTold : Stmt := top 73
abbrev sLawRefused : Stmt := top 74
abbrev sLawPool : Stmt := top 60
abbrev sLawDraw : Stmt := top 61
abbrev sLaw : Stmt := top 75
end K72
set_option Elab.async false
set_option linter.all false
set_option maxRecDepth 100000
set_option maxHeartbeats 4000000
/-! # k72, the head: what the top leaves, read by a Hook -/
namespace K72
open PySem PySem.W PySem.Calls PyProof.Rows L2
/-- an own exception class over ValueError, with a maker of its own -/
def numCls (K : Frag) (C : Addr) : Bool := match K.lookup C with
  | some ⟨.type "type", _, .cls cd, sl⟩ => (match cd.mro, sl.toList with
    | .ref C' :: bm, [_, _, _, _, some (.builtin n), _] => C' == C && n == "ValueError.__new__" && !cd.hasDel && cd.hasDict && PySem.HandSPX.refsVE bm
    | _, _ => false)
  | _ => false
theorem numCls_ok {K : Frag} {C : Addr} (h : numCls K C = true) : ∃ nm q N bs bm sn sub ab col dd k0 k1 k2 k3 k5, K.lookup C = some (excClassObj nm q C N bs bm true sn sub ab col dd k0 k1 k2 k3 k5 "ValueError.__new__") ∧ PySem.HandSPX.refsVE bm = true := by
  unfold numCls at h
  split at h
  · rename_i dd cd sl ho
    split at h
    · rename_i C' bm k0 k1 k2 k3 n k5 hm hs
      simp only [Bool.and_eq_true, beq_iff_eq, Bool.not_eq_true'] at h
      obtain ⟨⟨⟨⟨rfl, rfl⟩, hdel⟩, hdct⟩, hr⟩ := h
      obtain ⟨nm, bs, mro, ns, qn, hd, sn, sub, ab, col, del⟩ := cd
      dsimp only at hm hdel hdct
      subst hm hdel hdct
      have hsl : sl = #[k0, k1, k2, k3, some (.builtin "ValueError.__new__"), k5] := by
        obtain ⟨l⟩ := sl
        simp only at hs
        rw [hs]
      subst hsl
      exact ⟨nm, qn, ns, bs, bm, sn, sub, ab, col, dd, k0, k1, k2, k3, k5, ho, hr⟩
    · cases h
  · cases h
/-- a method with the class's cell: its function, its code's file, its cell -/
abbrev FnN : Type := Option (Str × Str × Arguments × FuncBody × Scope × Addr × List Str × Addr)
def fnN (K : Frag) (f : Addr) : FnN := match K.lookup f with
  | some ⟨_, _, .func fd, _⟩ => some (fd.name, fd.qualname, fd.params, fd.body, fd.scope, fd.globals, fd.closure.map (·.1), fd.builtins)
  | _ => none
def fnB (K : Frag) (f C : Addr) (file q : Str) : Bool := match K.lookup f with
  | some ⟨_, _, .func fd, _⟩ => (match fd.defaults, fd.code, fd.closure with
    | .none, .ref cda, [(_, cc)] => codeIn K (.ref cda) q && ((match K.lookup cda with
      | some ⟨_, _, .fields vs, _⟩ => (match (vs : Array PySem.Value)[2]? with
        | some (PySem.Value.str x _) => file == x
        | _ => false)
      | _ => false) && (match K.lookup cc with
      | some ⟨_, _, .cell (some (PySem.Value.ref C')), _⟩ => C' == C
      | _ => false))
    | _, _, _ => false)
  | _ => false
theorem fnN_ok {K : Frag} {f C : Addr} {file x q y : Str} {params : Arguments} {body : List Stmt} {scope : Scope} (e : fnN K f = some (x, q, params, .stmts body, scope, mainGlobals, [y], builtinsNs)) (h : fnB K f C file q = true) :
    ∃ cda cc, (∃ (oc : Value) (od : Option Addr) (kV doc pm : Value) (an : Option Addr) (ct : Value) (osl : Array (Option Value)), K.lookup f = some ⟨oc, od, .func (fnX x q params body scope [(y, cc)] .none kV doc pm an (.ref cda) ct), osl⟩ ∧ codeIn K (.ref cda) q = true) ∧
      (∃ (ccl : Value) (cdd : Option Addr) (vs : Array Value) (ccs : Array (Option Value)) (fl : Str) (tf : Tok), K.lookup cda = some ⟨ccl, cdd, .fields vs, ccs⟩ ∧ vs[2]? = some (.str fl tf) ∧ (file == fl) = true) ∧
      ∃ (cl : Value) (cld : Option Addr) (csl : Array (Option Value)), K.lookup cc = some ⟨cl, cld, .cell (some (.ref C)), csl⟩ := by
  unfold fnB at h
  unfold fnN at e
  split at h
  · rename_i oc od fd osl ho
    rw [ho] at e
    split at h
    · rename_i cda y' cc hd hc hcl
      obtain ⟨n1, n2, n3, n4, n5, n6, n7, n8, n9, n10, n11, n12, n13, n14, n15⟩ := fd
      dsimp only at hd hc hcl
      subst hd hc hcl
      have e2 : (some (n1, n2, n3, n4, n5, n6, [y'], n15) : FnN) = some (x, q, params, .stmts body, scope, mainGlobals, [y], builtinsNs) := e
      simp only [Option.some.injEq, Prod.mk.injEq, List.cons.injEq, and_true] at e2
      obtain ⟨h1, h2, h3, h4, h5, h6, h7, h8⟩ := e2
      subst h1 h2 h3 h4 h5 h6 h7 h8
      obtain ⟨a1, h⟩ := He.ba h
      obtain ⟨a2, a3⟩ := He.ba h
      refine ⟨cda, cc, ⟨oc, od, n9, n10, n11, n12, n14, osl, ho, a1⟩, ?_, ?_⟩
      · split at a2
        · rename_i ccl cdd vs ccs hk
          split at a2
          · rename_i fl tf hv
            exact ⟨ccl, cdd, vs, ccs, fl, tf, hk, hv, a2⟩
          · cases a2
        · cases a2
      · split at a3
        · rename_i cl cld C' csl hk
          have : C' = C := beq_iff_eq.mp a3
          subst this
          exact ⟨cl, cld, csl, hk⟩
        · cases a3
    · cases h
  · cases h
def excB (K : Frag) (D : Addr) : Bool := He.eqO (findIn K (.ref D) "__getattribute__") (some (some (.builtin "BaseException.__getattribute__"))) && (He.eqO (findIn K (.ref D) "__getattr__") (some none) && (decide (subIn K (.ref D) (.type "BaseException") = some true) && (hasDictIn K D &&
  (He.eqO (findIn K (.ref D) "__class__") (some (some (.builtin "object.__class__"))) && (He.eqO (specialIn K (.builtin "object.__class__") "__get__") (some (some (.builtin "getset_descriptor.__get__"))) && (decide (takesIn K (.builtin "object.__class__") = some true) && decide (mroIn K D (.type "object") = some true)))))))
theorem excB_ok {K : Frag} {D : Addr} (h : excB K D = true) : ExcC K D := by
  obtain ⟨h1, h⟩ := He.ba h
  obtain ⟨h2, h⟩ := He.ba h
  obtain ⟨h3, h⟩ := He.ba h
  obtain ⟨h4, h⟩ := He.ba h
  obtain ⟨h5, h⟩ := He.ba h
  obtain ⟨h6, h⟩ := He.ba h
  obtain ⟨h7, h8⟩ := He.ba h
  exact ⟨He.eqO_ok h1, He.eqO_ok h2, of_decide_eq_true h3, h4, He.eqO_ok h5, He.eqO_ok h6, of_decide_eq_true h7, of_decide_eq_true h8⟩
abbrev rR : OpenRow := OpenLaw.row PySem.Challenge.rw_roottower_k72_above_a_square_root
abbrev rP : Program := PySem.Challenge.rw_roottower_k72_above_a_square_root.prog
abbrev aN (K : Frag) : Addr := He.ga K "NumberError"
abbrev aZ (K : Frag) : Addr := He.ga K "ZeroError"
abbrev aR (K : Frag) : Addr := He.ga K "RootError"
abbrev aP (K : Frag) : Addr := He.ga K "Poly"
abbrev aI (K : Frag) : Addr := He.ma K (aN K) "__init__"
def exL (K : Frag) : List Bool := [
  He.eqO (nsIn K mainGlobals "isqrt") (some (some (.builtin "math.isqrt"))),
  He.eqO (nsIn K mainGlobals "NumberError") (some (some (.ref (aN K)))),
  numCls K (aN K),
  He.eqO (findIn K (.ref (aN K)) "__setattr__") (some (some (.builtin "object.__setattr__"))),
  He.eqO (findIn K (.ref (aN K)) "number") (some none),
  He.eqO (findIn K (.ref (aN K)) "__init__") (some (some (.ref (aI K)))),
  decide (typeIn K (.ref (aI K)) = some (.type "function")),
  keepIn K (.ref (aN K)),
  decide (subIn K (.ref (aN K)) (.type "BaseException") = some true),
  decide (typeIn K (.ref (aN K)) = some (.type "type")),
  fnB K (aI K) (aN K) (rP.main.file : Str) "NumberError.__init__",
  decide (mroIn K (aN K) (.ref (aN K)) = some true),
  He.eqO (nsIn K mainGlobals "super") (some none),
  He.eqO (nsIn K cStatics "thirdparty.any") (some none),
  He.eqO (ks_superIn K (aN K) (aN K) "__init__") (some (some (.builtin "ValueError.__init__"))),
  decide (subIn K (.ref (aN K)) (.type "ValueError") = some true),
  excB K (aN K),
  excB K (aZ K),
  xfB K (aN K),
  decide (kitOne K (.ref (aN K)) (.ref (aN K)) = some true)] 
def exM (K : Frag) : List Bool := [
  decide (kitOne K (.ref (aN K)) (.ref (aZ K)) = some false),
  decide (kitOne K (.ref (aZ K)) (.ref (aZ K)) = some true),
  decide (kitOne K (.ref (aZ K)) (.ref (aN K)) = some false),
  He.eqO (nsIn K mainGlobals "RootError") (some (some (.ref (aR K)))),
  He.eqO (findIn K (.ref (aP K)) "__class__") (some (some (.builtin "object.__class__"))),
  He.eqO (specialIn K (.builtin "object.__class__") "__get__") (some (some (.builtin "getset_descriptor.__get__"))),
  decide (takesIn K (.builtin "object.__class__") = some true),
  decide (mroIn K (aP K) (.type "object") = some true),
  decide (kitOne K (.ref (aP K)) (.ref (aP K)) = some true),
  He.eqO (nsIn K mainGlobals "Poly") (some (some (.ref (aP K)))),
  He.eqO (nsIn K mainGlobals "ZeroError") (some (some (.ref (aZ K))))]
abbrev AlX : Type := He.AlD × List Bool × List Bool × FnN
def numV : FnN := some (("__init__" : Str), ("NumberError.__init__" : Str), defArgs sNum, FuncBody.stmts (defBody sNum), defScope sNum, mainGlobals, [("__class__" : Str)], builtinsNs)
def obsX (fa : List He.Fa) (fn : List He.DefD) (K : Frag) : AlX := (He.obsD fa fn K, exL K, exM K, fnN K (aI K))
def valX (fn : List He.DefD) : AlX := (He.valD fn, List.replicate 20 true, List.replicate 11 true, numV)
def SaysX (fa : List He.Fa) (fn : List He.DefD) (K : Frag) : Prop := obsX fa fn K = valX fn
/-- every object that the top leaves: fewer than n -/
def frX (n : Nat) (g : Addr → Option Obj) : Frag := He.frG g (List.range n)
def obsXG (n : Nat) (fa : List He.Fa) (fn : List He.DefD) (g : Addr → Option Obj) : AlX := obsX fa fn (frX n g)
def hookX (n : Nat) (fa : List He.Fa) (fn : List He.DefD) : Hook where
  α := AlX
  obs := fun s => obsXG n fa fn s.heap.get?
  val := fun _ => valX fn
  says := fun _ h => ∃ K : Frag, K.In h ∧ SaysX fa fn K
  of := fun _ _ e => ⟨_, He.frG_in, e⟩
  keeps := fun _ _ _ ⟨K, hK, c⟩ k => ⟨K, Frag.In.keeps hK k, c⟩
theorem obsXG_eq {n : Nat} {fa : List He.Fa} {fn : List He.DefD} {g : Addr → Option Obj} {s : Shared} (h : ∀ a, g a = s.heap.get? a) : obsXG n fa fn g = (hookX n fa fn).obs s := by
  have e : g = s.heap.get? := funext h
  rw [e] <;> rfl
section
variable {fa : List He.Fa} {fn : List He.DefD} {K : Frag}
theorem SaysX.d (c : SaysX fa fn K) : He.SaysD fa fn K := congrArg (fun z : AlX => z.1) c
theorem SaysX.l (c : SaysX fa fn K) : exL K = List.replicate 20 true := congrArg (fun z : AlX => z.2.1) c
theorem SaysX.m (c : SaysX fa fn K) : exM K = List.replicate 11 true := congrArg (fun z : AlX => z.2.2.1) c
theorem SaysX.f (c : SaysX fa fn K) : fnN K (aI K) = numV := congrArg (fun z : AlX => z.2.2.2) c
end
/-! ### the text's defs and facts -/
def dF (x : Str) (st : Stmt) : He.DefD := ⟨(x, none), x, x, defArgs st, defBody st, defScope st, [], []⟩
def fns : List He.DefD := [dF "check_bounds" sCheckBounds, dF "check_size" sCheckSize, dF "exact_root" sExactRoot, dF "least_divisor" sLeast, dF "prime_powers" sPrimePowers, dF "square_free" sSquareFree, dF "two_squares" sTwoSquares, dF "trimmed" sTrimmed,
  dF "poly_of" sPolyOf, ⟨("Poly", some "__init__"), "__init__", "Poly.__init__", defArgs sPolyInit, defBody sPolyInit, defScope sPolyInit, [], []⟩, dF "cyclic_poly" sCyclicPoly, dF "bar_of" sBarOf, dF "cyclic_above" sCyclicAbove,
  dF "_law_pool" sLawPool, dF "_law_draw" sLawDraw, dF "_law_int" sLawInt, dF "_law_root" sLawRoot, dF "_law_square" sLawSquare, dF "_law_disc" sLawDisc, dF "_law_value" sLawValue, dF "_law_free" sLawFree, dF "_law_two" sLawTwo, dF "_law_bar" sLawBar, dF "_law_find" sLawFind,
  dF "_law_integers" sLawInts, dF "_law_above" sLawAbove, dF "_law_told" sLawTold, dF "_law_refused" sLawRefused, dF "law" sLaw]
def fas : List He.Fa := [.glo "check_bounds", .glo "check_size", .glo "exact_root", .glo "least_divisor", .glo "prime_powers", .glo "square_free", .glo "two_squares", .glo "trimmed", .glo "poly_of", .glo "Poly", .glo "cyclic_poly", .glo "bar_of", .glo "cyclic_above",
  .glo "_law_pool", .glo "_law_draw", .glo "_law_int", .glo "_law_root", .glo "_law_square", .glo "_law_disc", .glo "_law_value", .glo "_law_free", .glo "_law_two", .glo "_law_bar", .glo "_law_find", .glo "_law_integers", .glo "_law_above", .glo "_law_told", .glo "_law_refused", .glo "law",
  .free "len", .free "abs", .free "int", .free "range", .free "tuple", .free "isinstance", .free "all", .free "list", .free "bool",
  .free "str", .free "sum", .int "MOST_NUMBER" 1000000000, .int "MOST_PLAIN" 1000000, .int "MOST_PARAMETER" 1000000, .int "MOST_COEFFS" 61, .cls "Poly", .noat "Poly" "coeffs", .noat "Poly" "degree", .noat "Poly" "lead", .mkr "Poly", .exc "ZeroError",
  .exm "NumberError" "RootError" true, .exm "ZeroError" "RootError" true]
def n1 : List PySem.Str := ["gcd", "isqrt", "_wall", "RootError", "SizeError", "NumberError", "LeadError", "TextError", "ZeroError", "check_bounds", "check_size", "MOST_CHARACTERS", "MOST_DIGITS", "MOST_DEGREE", "FIRST_DIGITS", "lines_of", "scan_positive", "scan_integer", "scan_fraction", "scan_sign", "scan_exponent", "scan_term", "scan_polynomial", "MOST", "Frac", "frac_of", "check_number", "MOST_NUMBER", "MOST_PLAIN"]
def n2 : List PySem.Str := ["exact_root", "least_divisor", "prime_powers", "square_free", "two_squares", "MOST_COEFFS", "MOST_EXPONENT", "MOST_INDEX", "Poly", "poly_of", "value_at", "check_unit_lead", "trimmed", "row_plus", "row_minus", "row_times", "row_parts", "words_of", "sign_text", "term_text", "cyclic_poly", "bar_of", "MOST_PARAMETER", "cyclic_above"]
def n3 : List PySem.Str := ["_law_pool", "_law_draw", "_law_int", "_law_root", "_law_square", "_law_disc", "_law_value", "_law_free", "_law_two", "_law_bar", "_law_find", "_law_integers", "_law_above", "_law_told", "_law_refused"]
def names : List PySem.Str := n1 ++ n2 ++ n3
abbrev hk : Hook := hookX 800 fas fns
def ob (s : SharedT) : AlX := obsXG 800 fas fns (HandSHeadRun.getT s)
theorem ob_eq (s : SharedT) : ob s = hk.obs s.abs := obsXG_eq (HandSHeadRun.getT_eq s)
end K72
set_option Elab.async false
set_option linter.all false
set_option maxRecDepth 100000
set_option maxHeartbeats 4000000
/-! # k72, the head of a text that imports: the opening too is run on the tree -/
namespace K72
open PySem PySem.W PySem.Calls PyProof.Rows HandSHeadRun
section
variable (st : SharedT → Thread → Option (SharedT × Thread))
/-- the boot and the imports, to their end -/
def goI : Nat → SharedT → Thread → Option SharedT
  | 0, _, _ => none
  | m + 1, s, t => match t.atExitBegin with
    | some [] => some s
    | some (_ :: _) => none
    | none => match st s t with
      | some (s', t') => frS s' fun s' => goI m s' t'
      | none => none
def openF (N : Nat) (p : Program) : Option SharedT := match putAll (start (opening p)).1.heap.objs.toList .nil 0 with
  | some (t, n) => frNat n fun n0 => goI st N ⟨t, n0, (start (opening p)).1.heap.life, (start (opening p)).1.gens, (start (opening p)).1.drawn, (start (opening p)).1.toks, (start (opening p)).1.os⟩ (start (opening p)).2
  | none => none
def topF (M : Nat) (p : Program) (s0 : Shared) : Option SharedT := match putAll s0.heap.objs.toList .nil 0 with
  | some (t, n) => frNat n fun n0 => goF st n0 (s0.heap.nsMap mainGlobals "__annotations__") M ⟨t, n0, s0.heap.life, s0.gens, s0.drawn, s0.toks, s0.os⟩ (topStub p)
  | none => none
end
theorem goI_ok {tb : String → Option Builtin} {p : Program} {w : World} : ∀ {m : Nat} {s s' : SharedT} {t : Thread}, goI (stepT (denote tb) p w) m s t = some s' → importEnds tb p w m s.abs t = some s'.abs
  | 0, _, _, _, h => by cases h
  | m + 1, s, s', t, h => by
    unfold goI at h
    unfold importEnds
    cases ht : t.atExitBegin with
    | some l =>
      rw [ht] at h
      cases l with
      | nil => cases h; rfl
      | cons _ _ => cases h
    | none =>
      rw [ht] at h
      dsimp only at h
      cases hs : stepT (denote tb) p w s t with
      | none => rw [hs] at h; cases h
      | some r =>
        obtain ⟨s2, t2⟩ := r
        rw [hs] at h
        dsimp only at h
        rw [frS_eq] at h
        show (match step (denote tb) p w s.abs t with
          | .go s' t' => importEnds tb p w m s' t'
          | .halt _ _ => none) = some s'.abs
        rw [stepT_spec hs]
        exact goI_ok h
theorem abs_putAll {h : Heap} {g : Array GenState} {d : Drawn} {k : Nat} {os : OsState} {t : PySem.W.BT} {n : Nat} (e : putAll h.objs.toList .nil 0 = some (t, n)) : (⟨t, n, h.life, g, d, k, os⟩ : SharedT).abs = ⟨h, g, d, k, os⟩ := by
  show (⟨absHeap t n h.life, g, d, k, os⟩ : Shared) = _
  rw [putAll_heap e]
theorem openF_ok {N : Nat} {p : Program} {w : World} {s : SharedT} (h : openF (stepT (denote treeTable) (opening p) w) N p = some s) : importEnds treeTable (opening p) w N (start (opening p)).1 (start (opening p)).2 = some s.abs := by
  unfold openF at h
  cases e : putAll (start (opening p)).1.heap.objs.toList .nil 0 with
  | none => rw [e] at h; cases h
  | some r =>
    obtain ⟨t, n⟩ := r
    rw [e] at h
    dsimp only at h
    rw [frNat_eq] at h
    have q := goI_ok h
    rw [abs_putAll e] at q
    exact q
theorem topF_ok {M : Nat} {p : Program} {w : World} {s0 : Shared} {s : SharedT} (h : topF (stepT (denote treeTable) p w) M p s0 = some s) : topRun treeTable p w s0.heap.objs.size (s0.heap.nsMap mainGlobals "__annotations__") M s0 (topStub p) = some s.abs := by
  unfold topF at h
  cases e : putAll s0.heap.objs.toList .nil 0 with
  | none => rw [e] at h; cases h
  | some r =>
    obtain ⟨t, n⟩ := r
    rw [e] at h
    dsimp only at h
    rw [frNat_eq] at h
    have q := goF_ok h
    have en : s0.heap.objs.size = n := by
      have := putAll_heap e
      rw [← this]
      exact absHeap_size t n _
    rw [abs_putAll e] at q
    rw [en]
    exact q
/-- the whole head's equation, at a world -/
def headF (st1 st2 : SharedT → Thread → Option (SharedT × Thread)) {β : Type} (N M : Nat) (p : Program) (look : Shared → SharedT → β) : Option β := match openF st1 N p with
  | none => none
  | some s => match fenceModules? p s.abs with
    | none => none
    | some s0 => match topF st2 M p s0 with
      | none => none
      | some s1 => some (look s0 s1)
def lookF (p q : Program) (loose : List PySem.Str) (Xt : Shared → Bool) {α : Type} (Yf : SharedT → α) (s0 : Shared) (s1 : SharedT) := (s0.heap.isNs mainGlobals && s0.gens.size == 0, looksF p s0.heap s1.abs, openSeen q loose (importedModules p.main.body) Xt true s1.abs, Yf s1)
theorem left_two {p q : Program} {loose : List PySem.Str} {Xt : Shared → Bool} {α : Type} {Yf : Shared → α} {Ya : World → α} {N M : Nat} (le : Nat.ble M N = true)
    (run : ∀ w : World, headF (stepT (denote treeTable) (opening p) w) (stepT (denote treeTable) p w) N M p (lookF p q loose Xt fun s => Yf s.abs) = some (true, true, openGood q loose, Ya w)) :
    LeftO p q loose Xt Yf Ya N true := fun w => by
  have h := run w
  unfold headF at h
  cases e1 : openF (stepT (denote treeTable) (opening p) w) N p with
  | none => rw [e1] at h; cases h
  | some s =>
    rw [e1] at h
    dsimp only at h
    cases e2 : fenceModules? p s.abs with
    | none => rw [e2] at h; cases h
    | some s0 =>
      rw [e2] at h
      dsimp only at h
      cases e3 : topF (stepT (denote treeTable) p w) M p s0 with
      | none => rw [e3] at h; cases h
      | some s1 =>
        rw [e3] at h
        obtain ⟨l0, l1, l2, l3⟩ : _ ∧ _ ∧ _ ∧ _ := by simpa only [lookF, Option.some.injEq, Prod.mk.injEq] using h
        have r := topRun_mono (N - M) _ _ _ _ (topF_ok e3)
        rw [show M + (N - M) = N by have := Nat.le_of_ble_eq_true le; omega] at r
        have o : fencedOpening treeTable p w N = some s0 := by
          unfold fencedOpening
          rw [openF_ok e1]
          exact e2
        have l1' : (staticsOk (importedModules p.main.body) s0.heap s1.abs.heap && namesBound p s1.abs.heap && gensDone s1.abs && laidKept s0.heap s1.abs.heap) = true := l1
        have t : topFrom treeTable p w N s0 = some s1.abs := by
          unfold topFrom
          rw [l0]
          show (topRun treeTable p w s0.heap.objs.size (s0.heap.nsMap mainGlobals "__annotations__") N s0 (topStub p)).bind _ = _
          rw [r]
          show (match staticsOk (importedModules p.main.body) s0.heap s1.abs.heap && namesBound p s1.abs.heap && gensDone s1.abs && laidKept s0.heap s1.abs.heap with | true => some s1.abs | false => none) = _
          rw [l1']
        unfold openEnds
        rw [o]
        show (topFrom treeTable p w N s0).map _ = _
        rw [t]
        exact congrArg some (Prod.ext l2 l3)
noncomputable def lookQ (p q : Program) (loose : List PySem.Str) (Xt : Shared → Bool) {α : Type} (Yf : SharedT → α) (s0 : Shared) (s1 : SharedT) := (s0.heap.isNs mainGlobals && s0.gens.size == 0, looksF p s0.heap s1.abs, seenQ q loose (importedModules p.main.body) Xt s1.abs, Yf s1)
theorem look_eq (p q : Program) (loose : List PySem.Str) (Xt : Shared → Bool) {α : Type} (Yf : SharedT → α) : lookF p q loose Xt Yf = lookQ p q loose Xt Yf := by
  funext s0 s1
  unfold lookF lookQ
  rw [seenQ_eq]
/-- the run's equation, of a text that imports -/
def RunI (r : OpenRow) (q : Program) (H : Hook) (ob : SharedT → H.α) (N M : Nat) (loose : List PySem.Str) (w : World) : Prop :=
  headF (stepQ (denQ tabQ) (opening r.prog) w) (stepQ (denQ tabQ) r.prog w) N M r.prog (lookQ r.prog q loose (fun s => xlAt q [] s && recOk r.toRowW.records s) ob) = some (true, true, openGood q loose, H.val w)
theorem head_imp {r : OpenRow} {q : Program} {H : Hook} {ob : SharedT → H.α} {N M : Nat} {loose : List PySem.Str} {d : DefRec} {kwd : List (PySem.Str × PySem.Expr)} (ho : ∀ s : SharedT, ob s = H.obs s.abs) (le : Nat.ble M N = true) (run : ∀ w, RunI r q H ob N M loose w)
    (hdef : defOf q r.name = some (d, kwd)) (hp : r.prog.theDef r.name = some (d.params, d.body, d.scope)) (hk : kwWritten? d.params.kwonlyargs d.params.kw_defaults = some kwd)
    (hwr : (!r.writes || r.records.isEmpty) = true) (k1 : r.wellSaid = true) (ok : (chainsOk q && opensWell r.prog && (frees r.toRowW && r.within.isEmpty)) = true) (hb : r.prog.bare) (hw : r.toRowW.promised)
    (call : WalkO q loose (XL q []) H.says r.toRowW d kwd fun f vs => PySem.call f vs) : r.Holds := by
  have left : LeftO r.prog q loose (fun s => xlAt q [] s && recOk r.toRowW.records s) H.obs H.val N true :=
    left_two (M := M) le fun w => by
      have z := run w
      have eo : ob = fun s => H.obs s.abs := funext ho
      unfold RunI at z
      rw [eo] at z
      rw [stepQ_eq, denQ_eq, tabQ_eq, look_eq]
      exact z
  exact holds_open (r := r) (q := q) (loose := loose) (XP := XL q []) (YP := H.says) (d := d) (kwd := kwd) left H.of H.keeps (fun s z => xl_of s (Bool.and_eq_true_iff.mp z).1) XL.keeps hdef hp hk (fun s z => recFacts_of (Bool.and_eq_true_iff.mp z).2) hwr k1 ok hb hw call
end K72
set_option Elab.async false
set_option linter.all false
set_option maxRecDepth 100000
set_option maxHeartbeats 0
namespace K72
open PySem PySem.W PySem.Calls PyProof.Rows HandSHeadRun
noncomputable def lookA (s0 : Shared) (s1 : SharedT) := (s0.heap.isNs mainGlobals && s0.gens.size == 0, looksF rR.prog s0.heap s1.abs, seenQ (view rR.prog [75]) names (importedModules rR.prog.main.body) (fun s => xlAt (view rR.prog [75]) [] s && recOk rR.toRowW.records s) s1.abs)
theorem run_a (w : World) : headF (stepQ (denQ tabQ) (opening rR.prog) w) (stepQ (denQ tabQ) rR.prog w) 6000 6000 rR.prog lookA = some (true, true, openGood (view rR.prog [75]) names) := by
  kernel_rfl
theorem run_b (w : World) : headF (stepQ (denQ tabQ) (opening rR.prog) w) (stepQ (denQ tabQ) rR.prog w) 6000 6000 rR.prog (fun _ s1 => ob s1) = some (valX fns) := by
  kernel_rfl
theorem head_comb {st1 st2 : SharedT → Thread → Option (SharedT × Thread)} {N M : Nat} {p : Program} {A B C E : Type} {a : Shared → SharedT → A × B × C} {g : Shared → SharedT → E} {x : A} {y : B} {z : C} {e : E}
    (h1 : headF st1 st2 N M p a = some (x, y, z)) (h2 : headF st1 st2 N M p g = some e) : headF st1 st2 N M p (fun s0 s1 => ((a s0 s1).1, (a s0 s1).2.1, (a s0 s1).2.2, g s0 s1)) = some (x, y, z, e) := by
  unfold headF at h1 h2 ⊢
  cases e1 : openF st1 N p with
  | none => rw [e1] at h1; cases h1
  | some s =>
    rw [e1] at h1 h2
    dsimp only at h1 h2 ⊢
    cases e2 : fenceModules? p s.abs with
    | none => rw [e2] at h1; cases h1
    | some s0 =>
      rw [e2] at h1 h2
      dsimp only at h1 h2 ⊢
      cases e3 : topF st2 M p s0 with
      | none => rw [e3] at h1; cases h1
      | some s1 =>
        rw [e3] at h1 h2
        dsimp only at h1 h2 ⊢
        have q1 := Option.some.inj h1
        have q2 := Option.some.inj h2
        rw [q1, q2]
end K72
set_option Elab.async false
set_option linter.all false
set_option maxRecDepth 100000
set_option maxHeartbeats 400000
namespace K72
open PySem PySem.W PySem.Calls PyProof.Rows HandSHeadRun
theorem look_is : lookQ rR.prog (view rR.prog [75]) names (fun s => xlAt (view rR.prog [75]) [] s && recOk rR.toRowW.records s) ob = fun s0 s1 => ((lookA s0 s1).1, (lookA s0 s1).2.1, (lookA s0 s1).2.2, ob s1) := by
  kernel_rfl
theorem run_c (w : World) : headF (stepQ (denQ tabQ) (opening rR.prog) w) (stepQ (denQ tabQ) rR.prog w) 6000 6000 rR.prog (lookQ rR.prog (view rR.prog [75]) names (fun s => xlAt (view rR.prog [75]) [] s && recOk rR.toRowW.records s) ob) = some (true, true, openGood (view rR.prog [75]) names, valX fns) := by
  rw [look_is]
  exact head_comb (run_a w) (run_b w)
theorem run (w : World) : RunI rR (view rR.prog [75]) hk ob 6000 6000 names w := run_c w
end K72
set_option maxHeartbeats 4000000
namespace K72

/-! an involution upon a list without repetitions: its length has the parity of the number of its fixed points -/
theorem parity {α : Type} [DecidableEq α] (f : α → α) : ∀ (n : Nat) (L : List α), L.length ≤ n → L.Nodup → (∀ x ∈ L, f x ∈ L ∧ f (f x) = x) →
    L.length % 2 = (L.filter (fun x => decide (f x = x))).length % 2
  | 0, L, hn, _, _ => by
    have : L = [] := List.eq_nil_of_length_eq_zero (by omega)
    subst this; rfl
  | n + 1, [], _, _, _ => rfl
  | n + 1, a :: t, hn, hd, hf => by
    have hd' := List.nodup_cons.mp hd
    by_cases h : f a = a
    · have ht : ∀ x ∈ t, f x ∈ t ∧ f (f x) = x := by
        intro x hx
        obtain ⟨h1, h2⟩ := hf x (List.mem_cons_of_mem _ hx)
        refine ⟨?_, h2⟩
        rcases List.mem_cons.mp h1 with e | e
        · exfalso
          have : x = a := by rw [← h2, e, h]
          exact hd'.1 (this ▸ hx)
        · exact e
      have ih := parity f n t (by simp at hn; omega) hd'.2 ht
      rw [List.filter_cons, if_pos (decide_eq_true h), List.length_cons, List.length_cons]
      omega
    · obtain ⟨h1, h2⟩ := hf a (List.mem_cons_self ..)
      have hb : f a ∈ t := by
        rcases List.mem_cons.mp h1 with e | e
        · exact absurd e h
        · exact e
      have htd : (t.erase (f a)).Nodup := hd'.2.erase _
      have ht : ∀ x ∈ t.erase (f a), f x ∈ t.erase (f a) ∧ f (f x) = x := by
        intro x hx
        obtain ⟨hx1, hx2⟩ := (List.Nodup.mem_erase_iff hd'.2).mp hx
        obtain ⟨g1, g2⟩ := hf x (List.mem_cons_of_mem _ hx2)
        refine ⟨(List.Nodup.mem_erase_iff hd'.2).mpr ⟨?_, ?_⟩, g2⟩
        · intro e
          have e2 : f (f x) = f (f a) := by rw [e]
          rw [g2, h2] at e2
          exact hd'.1 (e2 ▸ hx2)
        · rcases List.mem_cons.mp g1 with e | e
          · exfalso; apply hx1; rw [← g2, e]
          · exact e
      have hl : (t.erase (f a)).length = t.length - 1 := List.length_erase_of_mem hb
      have hp : 0 < t.length := List.length_pos_of_mem hb
      have ih := parity f n (t.erase (f a)) (by simp at hn; omega) htd ht
      have e1 : t.filter (fun x => decide (f x = x)) = (t.erase (f a)).filter (fun x => decide (f x = x)) := by
        rw [List.Nodup.erase_eq_filter hd'.2, List.filter_filter]
        apply List.filter_congr
        intro x hx
        by_cases e : f x = x
        · have : x ≠ f a := by
            intro q; rw [q, h2] at e; exact h e.symm
          simp [e, this]
        · simp [e]
      rw [List.filter_cons, if_neg (by simpa using h), e1, ← ih, hl, List.length_cons]
      omega

/-! Zagier's triples -/
def good (p : Int) (t : Int × Int × Int) : Prop := 0 < t.1 ∧ 0 < t.2.1 ∧ 0 < t.2.2 ∧ t.1 * t.1 + 4 * t.2.1 * t.2.2 = p
instance (p : Int) (t : Int × Int × Int) : Decidable (good p t) := by unfold good; infer_instance
def upto (n : Nat) : List Int := (List.range (n + 1)).map fun (i : Nat) => (i : Int)
def trip (n : Nat) : List (Int × Int × Int) := (upto n).flatMap fun x => (upto n).flatMap fun y => (upto n).map fun z => (x, y, z)
theorem mem_upto {n : Nat} {x : Int} : x ∈ upto n ↔ 0 ≤ x ∧ x ≤ n := by
  unfold upto
  simp only [List.mem_map, List.mem_range]
  constructor
  · rintro ⟨a, h, rfl⟩; omega
  · intro ⟨h1, h2⟩; exact ⟨x.toNat, by omega, by omega⟩
theorem nodup_upto (n : Nat) : (upto n).Nodup := by
  unfold upto
  rw [List.Nodup, List.pairwise_map]
  exact List.Pairwise.imp (fun {a b} h => by omega) (List.nodup_range (n := n + 1))
theorem mem_trip {n : Nat} {t : Int × Int × Int} : t ∈ trip n ↔ t.1 ∈ upto n ∧ t.2.1 ∈ upto n ∧ t.2.2 ∈ upto n := by
  obtain ⟨x, y, z⟩ := t
  unfold trip
  simp only [List.mem_flatMap, List.mem_map]
  constructor
  · rintro ⟨a, ha, b, hb, c, hc, e⟩
    cases e; exact ⟨ha, hb, hc⟩
  · intro ⟨h1, h2, h3⟩; exact ⟨x, h1, y, h2, z, h3, rfl⟩
theorem nodup_trip (n : Nat) : (trip n).Nodup := by
  unfold trip
  rw [List.Nodup, List.pairwise_flatMap]
  refine ⟨fun x _ => ?_, ?_⟩
  · rw [List.pairwise_flatMap]
    refine ⟨fun y _ => ?_, ?_⟩
    · rw [List.pairwise_map]
      exact (nodup_upto n).imp fun {a b} h e => h (by cases e; rfl)
    · refine (nodup_upto n).imp fun {a b} h u hu v hv e => ?_
      simp only [List.mem_map] at hu hv
      obtain ⟨_, _, rfl⟩ := hu
      obtain ⟨_, _, rfl⟩ := hv
      cases e; exact h rfl
  · refine (nodup_upto n).imp fun {a b} h u hu v hv e => ?_
    simp only [List.mem_flatMap, List.mem_map] at hu hv
    obtain ⟨_, _, _, _, rfl⟩ := hu
    obtain ⟨_, _, _, _, rfl⟩ := hv
    cases e; exact h rfl
def S (n : Nat) : List (Int × Int × Int) := (trip n).filter fun t => decide (good (n : Int) t)
theorem nodup_S (n : Nat) : (S n).Nodup := (nodup_trip n).sublist List.filter_sublist
theorem mem_S {n : Nat} {t : Int × Int × Int} : t ∈ S n ↔ good (n : Int) t := by
  unfold S
  rw [List.mem_filter, mem_trip, decide_eq_true_eq]
  constructor
  · exact fun h => h.2
  · intro h
    refine ⟨?_, h⟩
    obtain ⟨h1, h2, h3, h4⟩ := h
    obtain ⟨x, y, z⟩ := t
    simp only at h1 h2 h3 h4
    simp only [mem_upto]
    have q1 : 1 * x ≤ x * x := Int.mul_le_mul (by omega) (by omega) (by omega) (by omega)
    have q2 : y * 1 ≤ y * z := Int.mul_le_mul (by omega) (by omega) (by omega) (by omega)
    have q3 : 1 * z ≤ y * z := Int.mul_le_mul (by omega) (by omega) (by omega) (by omega)
    have q4 : 4 * y * z = 4 * (y * z) := by rw [Int.mul_assoc]
    rw [q4] at h4
    omega
/-- the twist -/
def zag (t : Int × Int × Int) : Int × Int × Int :=
  if t.1 < t.2.1 - t.2.2 then (t.1 + 2 * t.2.2, t.2.2, t.2.1 - t.1 - t.2.2)
  else if t.1 < 2 * t.2.1 then (2 * t.2.1 - t.1, t.2.1, t.1 - t.2.1 + t.2.2)
  else (t.1 - 2 * t.2.1, t.1 - t.2.1 + t.2.2, t.2.1)
def swap (t : Int × Int × Int) : Int × Int × Int := (t.1, t.2.2, t.2.1)
/-- a prime, as it is needed -/
def Pr (p : Int) : Prop := 2 ≤ p ∧ ∀ m, 2 ≤ m → m < p → ¬ m ∣ p
theorem no_square {p x : Int} (hp : Pr p) : x * x ≠ p := by
  intro h
  obtain ⟨h2, hm⟩ := hp
  have key : ∀ a : Int, 0 ≤ a → a * a = p → False := by
    intro a ha e
    have h3 : 2 ≤ a := by
      apply Decidable.byContradiction; intro q
      have : a = 0 ∨ a = 1 := by omega
      rcases this with rfl | rfl <;> omega
    have : 2 * a ≤ a * a := Int.mul_le_mul h3 (Int.le_refl _) ha ha
    exact hm a h3 (by omega) ⟨a, e.symm⟩
  by_cases hx : 0 ≤ x
  · exact key x hx h
  · exact key (-x) (by omega) (by rw [Int.neg_mul_neg]; exact h)
theorem zag_good {p : Int} (hp : Pr p) {t : Int × Int × Int} (h : good p t) : good p (zag t) ∧ zag (zag t) = t := by
  obtain ⟨x, y, z⟩ := t
  obtain ⟨h1, h2, h3, h4⟩ := h
  simp only at h1 h2 h3 h4
  have n1 : x ≠ 2 * y := by
    intro e
    subst e
    -- p = 4y² + 4yz = 4 y (y + z)
    have : 2 ∣ p := ⟨2 * y * (y + z), by rw [← h4]; grind⟩
    exact hp.2 2 (by omega) (by
      have : 1 * 1 ≤ y * y := Int.mul_le_mul (by omega) (by omega) (by omega) (by omega)
      have : 1 * 1 ≤ y * z := Int.mul_le_mul (by omega) (by omega) (by omega) (by omega)
      have e : p = 4 * (y * y) + 4 * (y * z) := by rw [← h4]; grind
      omega) this
  have n2 : x ≠ y - z := by
    intro e
    subst e
    exact no_square hp (x := y + z) (by rw [← h4]; grind)
  unfold zag
  simp only
  by_cases c1 : x < y - z
  · simp only [if_pos c1]
    constructor
    · exact ⟨by simp only; omega, by simp only; omega, by simp only; omega, by simp only; rw [← h4]; grind⟩
    · have : ¬ (x + 2 * z < z - (y - x - z)) := by omega
      have : ¬ (x + 2 * z < 2 * z) := by omega
      simp only [*, if_false]
      refine Prod.ext (by simp only; omega) (Prod.ext (by simp only; omega) (by simp only))
  · simp only [if_neg c1]
    by_cases c2 : x < 2 * y
    · simp only [if_pos c2]
      constructor
      · exact ⟨by simp only; omega, by simp only; omega, by simp only; omega, by simp only; rw [← h4]; grind⟩
      · have g1 : ¬ (2 * y - x < y - (x - y + z)) := by omega
        have g2 : (2 * y - x < 2 * y) := by omega
        simp only [if_neg g1, if_pos g2]
        refine Prod.ext (by simp only; omega) (Prod.ext (by simp only) (by simp only; omega))
    · simp only [if_neg c2]
      constructor
      · exact ⟨by simp only; omega, by simp only; omega, by simp only; omega, by simp only; rw [← h4]; grind⟩
      · have g1 : (x - 2 * y < x - y + z - y) := by omega
        simp only [if_pos g1]
        refine Prod.ext (by simp only; omega) (Prod.ext (by simp only) (by simp only; omega))
/-- the twist leaves one triple alone -/
theorem zag_fix {p : Int} (hp : Pr p) (k : Int) (hk : p = 4 * k + 1) {t : Int × Int × Int} (h : good p t) (e : zag t = t) : t = (1, 1, k) := by
  obtain ⟨x, y, z⟩ := t
  obtain ⟨h1, h2, h3, h4⟩ := h
  simp only at h1 h2 h3 h4
  unfold zag at e
  simp only at e
  by_cases c1 : x < y - z
  · rw [if_pos c1] at e
    have := congrArg Prod.fst e
    simp only at this
    omega
  · rw [if_neg c1] at e
    by_cases c2 : x < 2 * y
    · rw [if_pos c2] at e
      have := congrArg Prod.fst e
      simp only at this
      have exy : x = y := by omega
      subst exy
      -- p = x (x + 4 z)
      have hx : x = 1 := by
        apply Decidable.byContradiction; intro q
        refine hp.2 x (by omega) ?_ ⟨x + 4 * z, by rw [← h4]; grind⟩
        have : 2 * x ≤ x * x := Int.mul_le_mul (by omega) (Int.le_refl _) (by omega) (by omega)
        have : 1 * 1 ≤ x * z := Int.mul_le_mul (by omega) (by omega) (by omega) (by omega)
        have e : p = x * x + 4 * (x * z) := by rw [← h4]; grind
        omega
      subst hx
      refine Prod.ext rfl (Prod.ext rfl ?_)
      simp only; omega
    · rw [if_neg c2] at e
      have := congrArg Prod.fst e
      simp only at this
      omega
theorem two_squares_prime {p : Int} (hp : Pr p) (h4 : p % 4 = 1) : ∃ u v : Int, u * u + v * v = p := by
  obtain ⟨n, rfl⟩ : ∃ n : Nat, p = n := ⟨p.toNat, by have := hp.1; omega⟩
  obtain ⟨k, hk⟩ : ∃ k : Int, (n : Int) = 4 * k + 1 := ⟨(n : Int) / 4, by omega⟩
  have hk0 : 0 < k := by
    have := hp.1; omega
  have g1 : good (n : Int) (1, 1, k) := ⟨Int.zero_lt_one, Int.zero_lt_one, hk0, by simp only; omega⟩
  have z1 : zag (1, 1, k) = (1, 1, k) := by
    unfold zag
    simp only
    rw [if_neg (by omega), if_pos (by omega)]
    refine Prod.ext (by simp only; omega) (Prod.ext rfl (by simp only; omega))
  have p1 := parity zag (S n).length (S n) (Nat.le_refl _) (nodup_S n) (fun x hx => by
    have q := zag_good hp (mem_S.mp hx)
    exact ⟨mem_S.mpr q.1, q.2⟩)
  have f1 : (S n).filter (fun x => decide (zag x = x)) = [(1, 1, k)] := by
    have hnd : ((S n).filter (fun x => decide (zag x = x))).Nodup := (nodup_S n).sublist List.filter_sublist
    have hm : ∀ x, x ∈ (S n).filter (fun x => decide (zag x = x)) ↔ x = (1, 1, k) := by
      intro x
      rw [List.mem_filter, mem_S, decide_eq_true_eq]
      constructor
      · exact fun h => zag_fix hp k hk h.1 h.2
      · rintro rfl; exact ⟨g1, z1⟩
    generalize (S n).filter (fun x => decide (zag x = x)) = M at hnd hm
    match M, hnd, hm with
    | [], _, hm => exact absurd ((hm _).mpr rfl) (by simp)
    | [a], _, hm => rw [(hm a).mp (by simp)]
    | a :: b :: r, hnd, hm =>
      have ea := (hm a).mp (by simp)
      have eb := (hm b).mp (by simp)
      rw [ea, eb] at hnd
      simp at hnd
  rw [f1] at p1
  have p2 := parity swap (S n).length (S n) (Nat.le_refl _) (nodup_S n) (fun x hx => by
    obtain ⟨h1, h2, h3, h4⟩ := mem_S.mp hx
    refine ⟨mem_S.mpr ⟨h1, h3, h2, ?_⟩, rfl⟩
    simp only [swap]; rw [← h4]; grind)
  rw [p1] at p2
  cases hM : (S n).filter (fun x => decide (swap x = x)) with
  | nil => rw [hM] at p2; simp at p2
  | cons a r =>
    have ha : a ∈ (S n).filter (fun x => decide (swap x = x)) := by rw [hM]; simp
    rw [List.mem_filter, mem_S, decide_eq_true_eq] at ha
    obtain ⟨⟨h1, h2, h3, h4⟩, e⟩ := ha
    obtain ⟨x, y, z⟩ := a
    have ey : z = y := congrArg (fun t => t.2.1) e
    subst ey
    simp only at h4
    exact ⟨x, 2 * z, by rw [← h4]; grind⟩
end K72
set_option maxHeartbeats 4000000
namespace K72

/-- p is the least divisor of n above 1 -/
def Least (n p : Int) : Prop := 2 ≤ p ∧ p ∣ n ∧ ∀ m, 2 ≤ m → m < p → ¬ m ∣ n
theorem Least.pr {n p : Int} (h : Least n p) : Pr p := ⟨h.1, fun m h1 h2 h3 => h.2.2 m h1 h2 (Int.dvd_trans h3 h.2.1)⟩
theorem least_ex {n : Int} (hn : 2 ≤ n) : ∃ p, Least n p := by
  have key : ∀ k : Nat, ∀ b : Int, 2 ≤ b → (n - b).toNat ≤ k → (∀ m, 2 ≤ m → m < b → ¬ m ∣ n) → b ≤ n → ∃ p, Least n p := by
    intro k
    induction k with
    | zero =>
      intro b hb hk hm hbn
      have : b = n := by omega
      subst this
      exact ⟨b, hb, Int.dvd_refl b, hm⟩
    | succ k ih =>
      intro b hb hk hm hbn
      by_cases hd : b ∣ n
      · exact ⟨b, hb, hd, hm⟩
      · have hne : b ≠ n := fun e => hd (e ▸ Int.dvd_refl b)
        refine ih (b + 1) (by omega) (by omega) (fun m h1 h2 => ?_) (by omega)
        by_cases e : m = b
        · rw [e]; exact hd
        · exact hm m h1 (by omega)
  exact key _ 2 (by omega) (Nat.le_refl _) (fun m h1 h2 => by omega) hn
theorem least_le {n p m : Int} (h : Least n p) (h1 : 2 ≤ m) (h2 : m ∣ n) : p ≤ m := by
  apply Decidable.byContradiction; intro q
  exact h.2.2 m h1 (by omega) h2

/-! primes and products -/
theorem pr_gcd {p a : Int} (hp : Pr p) (h : ¬ p ∣ a) : Int.gcd p a = 1 := by
  have h1 : ((Int.gcd p a : Nat) : Int) ∣ p := Int.gcd_dvd_left ..
  have h2 : ((Int.gcd p a : Nat) : Int) ∣ a := Int.gcd_dvd_right ..
  have hp2 := hp.1
  have h0 : 0 < Int.gcd p a := Int.gcd_pos_of_ne_zero_left _ (by omega)
  apply Decidable.byContradiction; intro q
  have h3 : ((Int.gcd p a : Nat) : Int) ≤ p := Int.le_of_dvd (by omega) h1
  by_cases e : ((Int.gcd p a : Nat) : Int) = p
  · rw [e] at h2; exact h h2
  · exact hp.2 _ (by omega) (by omega) h1
theorem pr_mul {p a b : Int} (hp : Pr p) (h : p ∣ a * b) : p ∣ a ∨ p ∣ b := by
  by_cases ha : p ∣ a
  · exact .inl ha
  · right
    have q := Int.dvd_gcd_mul_iff_dvd_mul.mpr h
    rw [pr_gcd hp ha] at q
    simpa using q
theorem pr_sq {p a : Int} (hp : Pr p) (h : p ∣ a * a) : p ∣ a := (pr_mul hp h).elim id id

/-- no square above 1 divides it -/
def Sqf (d : Int) : Prop := ∀ q, 2 ≤ q → ¬ q * q ∣ d
theorem Sqf.of_dvd {d e : Int} (h : Sqf d) (he : e ∣ d) : Sqf e := fun q h1 h2 => h q h1 (Int.dvd_trans h2 he)
theorem Sqf.ne_zero {d : Int} (h : Sqf d) : d ≠ 0 := fun e => h 2 (by omega) (by rw [e]; exact Int.dvd_zero _)
theorem sqf_neg {d : Int} : Sqf (-d) ↔ Sqf d := by
  constructor
  · intro h q h1 h2; exact h q h1 (Int.dvd_neg.mpr h2)
  · intro h q h1 h2; exact h q h1 (Int.dvd_neg.mp h2)
theorem sqf_not_square {d x : Int} (h : Sqf d) (hd : 2 ≤ d) : x * x ≠ d := by
  intro e
  have key : ∀ a : Int, 0 ≤ a → a * a = d → False := by
    intro a ha e
    have h3 : 2 ≤ a := by
      apply Decidable.byContradiction; intro q
      have : a = 0 ∨ a = 1 := by omega
      rcases this with rfl | rfl <;> omega
    exact h a h3 ⟨1, by omega⟩
  by_cases hx : 0 ≤ x
  · exact key x hx e
  · exact key (-x) (by omega) (by rw [Int.neg_mul_neg]; exact e)

/-! ### sums of two squares -/
def Two (n : Int) : Prop := ∃ u v : Int, u * u + v * v = n
theorem Two.mul {a b : Int} (ha : Two a) (hb : Two b) : Two (a * b) := by
  obtain ⟨u, v, rfl⟩ := ha
  obtain ⟨x, y, rfl⟩ := hb
  exact ⟨u * x - v * y, u * y + v * x, by grind⟩
/-- each prime divisor is no 3 modulo 4, and no square divides: a sum of two squares -/
theorem two_of : ∀ (k : Nat) (n : Int), n.toNat ≤ k → 1 ≤ n → (∀ p, Pr p → p ∣ n → p % 4 ≠ 3) → Two n
  | 0, n, hk, h1, _ => by omega
  | k + 1, n, hk, h1, hp => by
    by_cases e : n = 1
    · exact ⟨0, 1, by omega⟩
    · obtain ⟨p, hl⟩ := least_ex (n := n) (by omega)
      obtain ⟨m, hm⟩ := hl.2.1
      have pp := hl.pr
      have p2 := pp.1
      have hm1 : 1 ≤ m := by
        apply Decidable.byContradiction; intro q
        have : p * m ≤ 0 := by
          have : p * m ≤ p * 0 := Int.mul_le_mul_of_nonneg_left (by omega) (by omega)
          omega
        omega
      have hlt : m < n := by
        have : 2 * m ≤ p * m := Int.mul_le_mul_of_nonneg_right p2 (by omega)
        omega
      have tm := two_of k m (by omega) hm1 (fun q hq hd => hp q hq (Int.dvd_trans hd ⟨p, by rw [hm, Int.mul_comm]⟩))
      have tp : Two p := by
        by_cases e2 : p = 2
        · exact ⟨1, 1, by omega⟩
        · have h3 := hp p pp hl.2.1
          have hodd : p % 2 ≠ 0 := fun q => pp.2 2 (by omega) (by omega) (by omega)
          exact two_squares_prime pp (by omega)
      rw [hm]
      exact tp.mul tm

theorem three_factor : ∀ (k : Nat) (m : Int), m.toNat ≤ k → 0 ≤ m → m % 4 = 3 → ∃ q, Pr q ∧ q ∣ m ∧ q % 4 = 3
  | 0, m, hk, h0, h3 => by omega
  | k + 1, m, hk, h0, h3 => by
    obtain ⟨p, hl⟩ := least_ex (n := m) (by omega)
    obtain ⟨r, hr⟩ := hl.2.1
    have pp := hl.pr
    have p2 := pp.1
    by_cases e : p % 4 = 3
    · exact ⟨p, pp, hl.2.1, e⟩
    · have hr1 : 1 ≤ r := by
        apply Decidable.byContradiction; intro q
        have : p * r ≤ p * 0 := Int.mul_le_mul_of_nonneg_left (by omega) (by omega)
        omega
      have hlt : r < m := by
        have : 2 * r ≤ p * r := Int.mul_le_mul_of_nonneg_right p2 (by omega)
        omega
      have hr3 : r % 4 = 3 := by
        have e1 : m % 4 = ((p % 4) * (r % 4)) % 4 := by rw [hr, Int.mul_emod]
        have : p % 4 = 0 ∨ p % 4 = 1 ∨ p % 4 = 2 := by omega
        rcases this with c | c | c <;> rw [c] at e1 <;> omega
      obtain ⟨q, h1, h2, h4⟩ := three_factor k r (by omega) (by omega) hr3
      exact ⟨q, h1, Int.dvd_trans h2 ⟨p, by rw [hr, Int.mul_comm]⟩, h4⟩

/-- u with its least remainder -/
theorem near (p u : Int) (hp : 2 ≤ p) (hodd : p % 2 = 1) : ∃ x, 0 ≤ x ∧ 2 * x < p ∧ (p ∣ u - x ∨ p ∣ u + x) := by
  have h0 := Int.emod_nonneg u (show p ≠ 0 by omega)
  have h1 := Int.emod_lt_of_pos u (show 0 < p by omega)
  have hd : p ∣ u - u % p := Int.dvd_self_sub_emod
  by_cases c : 2 * (u % p) < p
  · exact ⟨u % p, h0, c, .inl hd⟩
  · refine ⟨p - u % p, by omega, by omega, .inr ?_⟩
    have : u + (p - u % p) = (u - u % p) + p := by omega
    rw [this]
    exact Int.dvd_add hd (Int.dvd_refl p)
theorem sq_dvd_of_near {p u x : Int} (h : p ∣ u - x ∨ p ∣ u + x) : p ∣ u * u - x * x := by
  rcases h with ⟨c, h⟩ | ⟨c, h⟩
  · exact ⟨c * (u + x), by rw [show u * u - x * x = (u - x) * (u + x) by grind, h]; grind⟩
  · exact ⟨c * (u - x), by rw [show u * u - x * x = (u + x) * (u - x) by grind, h]; grind⟩

theorem sq_mod4 (a : Int) : (a * a) % 4 = 0 ∧ a % 2 = 0 ∨ (a * a) % 8 = 1 ∧ a % 2 = 1 := by
  have h : a % 8 = 0 ∨ a % 8 = 1 ∨ a % 8 = 2 ∨ a % 8 = 3 ∨ a % 8 = 4 ∨ a % 8 = 5 ∨ a % 8 = 6 ∨ a % 8 = 7 := by omega
  have e8 : (a * a) % 8 = ((a % 8) * (a % 8)) % 8 := Int.mul_emod ..
  rcases h with c | c | c | c | c | c | c | c <;> rw [c] at e8 <;> omega

/-- the descent -/
theorem no_three : ∀ (k : Nat) (p : Int), p.toNat ≤ k → Pr p → p % 4 = 3 → ∀ u v : Int, p ∣ u * u + v * v → p ∣ u
  | 0, p, hk, hp, _, _, _, _ => by have := hp.1; omega
  | k + 1, p, hk, hp, h3, u, v, hd => by
    apply Decidable.byContradiction; intro hu
    have p2 := hp.1
    obtain ⟨x, x0, x1, xd⟩ := near p u p2 (by omega)
    obtain ⟨y, y0, y1, yd⟩ := near p v p2 (by omega)
    have xd' := sq_dvd_of_near xd
    have yd' := sq_dvd_of_near yd
    have hd2 : p ∣ x * x + y * y := by
      have e : x * x + y * y = (u * u + v * v) - (u * u - x * x) - (v * v - y * y) := by omega
      rw [e]; exact Int.dvd_sub (Int.dvd_sub hd xd') yd'
    have hx : x ≠ 0 := by
      rintro rfl
      apply hu
      rcases xd with h | h
      · simpa using h
      · simpa using h
    -- their common divisor out
    have g0 : 0 < Int.gcd x y := Int.gcd_pos_of_ne_zero_left _ hx
    obtain ⟨a, ha⟩ : ((Int.gcd x y : Nat) : Int) ∣ x := Int.gcd_dvd_left ..
    obtain ⟨b, hb⟩ : ((Int.gcd x y : Nat) : Int) ∣ y := Int.gcd_dvd_right ..
    have hgab : Int.gcd a b = 1 := by
      have e : Int.gcd x y = Int.gcd x y * Int.gcd a b := by
        have e1 := Int.gcd_mul_left (Int.gcd x y : Int) a b
        rw [← ha, ← hb] at e1
        simpa using e1
      have : Int.gcd x y * 1 = Int.gcd x y * Int.gcd a b := by omega
      exact (Nat.eq_of_mul_eq_mul_left g0 this).symm
    generalize hg : ((Int.gcd x y : Nat) : Int) = g at ha hb
    have g1 : 0 < g := by omega
    have hgx : g ≤ x := by
      have : g ∣ x := ⟨a, ha⟩
      exact Int.le_of_dvd (by omega) this
    have hpg : ¬ p ∣ g := fun q => by
      have := Int.le_of_dvd g1 q
      omega
    have hab : p ∣ a * a + b * b := by
      have e : x * x + y * y = g * (g * (a * a + b * b)) := by rw [ha, hb]; grind
      rw [e] at hd2
      rcases pr_mul hp hd2 with q | q
      · exact absurd q hpg
      · rcases pr_mul hp q with q | q
        · exact absurd q hpg
        · exact q
    have a1 : 0 < a := by
      apply Decidable.byContradiction; intro q
      have : g * a ≤ g * 0 := Int.mul_le_mul_of_nonneg_left (by omega) (by omega)
      omega
    have b0 : 0 ≤ b := by
      apply Decidable.byContradiction; intro q
      have : g * b ≤ g * (-1) := Int.mul_le_mul_of_nonneg_left (by omega) (by omega)
      omega
    have ax : a ≤ x := by
      have : 1 * a ≤ g * a := Int.mul_le_mul_of_nonneg_right (by omega) (by omega)
      omega
    have by' : b ≤ y := by
      have : 1 * b ≤ g * b := Int.mul_le_mul_of_nonneg_right (by omega) b0
      omega
    obtain ⟨m, hm⟩ := hab
    have haa : a * (2 * a) ≤ a * p := Int.mul_le_mul_of_nonneg_left (by omega) (by omega)
    have hap : (2 * a) * p ≤ p * p := Int.mul_le_mul_of_nonneg_right (by omega) (by omega)
    have hbb : b * (2 * b) ≤ b * p := Int.mul_le_mul_of_nonneg_left (by omega) (by omega)
    have hbp : (2 * b) * p ≤ p * p := Int.mul_le_mul_of_nonneg_right (by omega) (by omega)
    have hpos : 0 < a * a := Int.mul_pos a1 a1
    have hbpos : 0 ≤ b * b := Int.mul_nonneg b0 b0
    have m1 : 0 < m := by
      apply Decidable.byContradiction; intro q
      have : p * m ≤ p * 0 := Int.mul_le_mul_of_nonneg_left (by omega) (by omega)
      omega
    have mp : m < p := by
      apply Decidable.byContradiction; intro q
      have h1 : p * p ≤ p * m := Int.mul_le_mul_of_nonneg_left (by omega) (by omega)
      have h2 : a * (2 * a) = 2 * (a * a) := by grind
      have h3 : b * (2 * b) = 2 * (b * b) := by grind
      have h4 : (2 * a) * p = 2 * (a * p) := by grind
      have h5 : (2 * b) * p = 2 * (b * p) := by grind
      have h6 : 0 < p * p := Int.mul_pos (by omega) (by omega)
      omega
    -- a divisor of it that is 3 modulo 4
    have hodd : ¬ (a % 2 = 0 ∧ b % 2 = 0) := by
      rintro ⟨q1, q2⟩
      have : (2 : Int) ∣ ((Int.gcd a b : Nat) : Int) := Int.dvd_coe_gcd (by omega) (by omega)
      rw [hgab] at this
      omega
    have hN : (p * m) % 4 = ((p % 4) * (m % 4)) % 4 := Int.mul_emod ..
    have hN8 : (p * m) % 8 = ((p % 8) * (m % 8)) % 8 := Int.mul_emod ..
    rw [h3] at hN
    have hsa := sq_mod4 a
    have hsb := sq_mod4 b
    obtain ⟨q, hq, hqm, hq3⟩ : ∃ q, Pr q ∧ q ∣ m ∧ q % 4 = 3 := by
      by_cases hbo : b % 2 = 0 ∨ a % 2 = 0
      · have : m % 4 = 3 := by omega
        exact three_factor _ m (Nat.le_refl _) (by omega) this
      · have h8 : (p * m) % 8 = 2 := by omega
        have : p % 8 = 3 ∨ p % 8 = 7 := by omega
        have hm6 : m % 8 = 6 := by
          have hm8 : m % 8 = 0 ∨ m % 8 = 1 ∨ m % 8 = 2 ∨ m % 8 = 3 ∨ m % 8 = 4 ∨ m % 8 = 5 ∨ m % 8 = 6 ∨ m % 8 = 7 := by omega
          rcases this with c | c <;> rcases hm8 with e | e | e | e | e | e | e | e <;> rw [c, e] at hN8 <;> omega
        obtain ⟨q, h1, h2, h4⟩ := three_factor _ (m / 2) (Nat.le_refl _) (by omega) (by omega)
        exact ⟨q, h1, Int.dvd_trans h2 ⟨2, by omega⟩, h4⟩
    have hqp : q ≤ m := Int.le_of_dvd m1 hqm
    have hqd : q ∣ a * a + b * b := by rw [hm]; exact Int.dvd_trans hqm ⟨p, Int.mul_comm ..⟩
    have hqa := no_three k q (by omega) hq hq3 a b hqd
    have hqb := no_three k q (by omega) hq hq3 b a (by rw [Int.add_comm]; exact hqd)
    have : q ∣ ((Int.gcd a b : Nat) : Int) := Int.dvd_coe_gcd hqa hqb
    rw [hgab] at this
    have := Int.le_of_dvd (by omega) this
    have := hq.1
    omega
/-- square-free: a sum of two squares exactly if no prime that is 3 modulo 4 divides it -/
theorem two_iff {d : Int} (hd : 1 ≤ d) (hs : Sqf d) : Two d ↔ ∀ p, Pr p → p ∣ d → p % 4 ≠ 3 := by
  constructor
  · rintro ⟨u, v, e⟩ p hp hpd h3
    have h1 := no_three _ p (Nat.le_refl _) hp h3 u v (by rw [e]; exact hpd)
    have h2 := no_three _ p (Nat.le_refl _) hp h3 v u (by rw [Int.add_comm, e]; exact hpd)
    obtain ⟨a, ha⟩ := h1
    obtain ⟨b, hb⟩ := h2
    exact hs p hp.1 ⟨a * a + b * b, by rw [← e, ha, hb]; grind⟩
  · exact two_of _ d (Nat.le_refl _) hd
end K72
set_option maxHeartbeats 4000000
namespace K72
/-- the prime powers of n, in order -/
inductive PP : Int → List (Int × Int) → Prop
  | one : PP 1 []
  | more {n p r : Int} {k : Nat} {t : List (Int × Int)} : Least n p → n = p ^ k * r → ¬ p ∣ r → 1 ≤ r → 1 ≤ k → PP r t → PP n ((p, (k : Int)) :: t)
def oddp (ps : List (Int × Int)) : Int := ps.foldr (fun x a => (if x.2 % 2 = 1 then x.1 else 1) * a) 1
theorem pow_pos' {p : Int} (hp : 2 ≤ p) : ∀ k : Nat, 1 ≤ p ^ k
  | 0 => by simp
  | k + 1 => by
    have ih := pow_pos' hp k
    have : 1 * 1 ≤ p ^ k * p := Int.mul_le_mul ih (by omega) (by omega) (by omega)
    rw [Int.pow_succ]; omega
theorem pow_ge' {p : Int} (hp : 2 ≤ p) {k : Nat} (hk : 1 ≤ k) : p ≤ p ^ k := by
  obtain ⟨j, rfl⟩ : ∃ j, k = j + 1 := ⟨k - 1, by omega⟩
  have := pow_pos' hp j
  have : 1 * p ≤ p ^ j * p := Int.mul_le_mul_of_nonneg_right this (by omega)
  rw [Int.pow_succ]; omega
theorem pow_gt' {p : Int} (hp : 2 ≤ p) {k : Nat} (hk : 2 ≤ k) : p < p ^ k := by
  obtain ⟨j, rfl⟩ : ∃ j, k = j + 1 := ⟨k - 1, by omega⟩
  have := pow_ge' hp (k := j) (by omega)
  have : 2 * p ≤ p ^ j * p := Int.mul_le_mul_of_nonneg_right (by omega) (by omega)
  rw [Int.pow_succ]; omega
theorem pp_pos {n : Int} {ps : List (Int × Int)} (h : PP n ps) : 1 ≤ n := by
  induction h with
  | one => omega
  | more hl hn hd hr hk h ih =>
    rename_i n p r k t
    have := pow_pos' hl.1 k
    have : 1 * 1 ≤ p ^ k * r := Int.mul_le_mul (by omega) hr (by omega) (by omega)
    omega
theorem sqf_one : Sqf 1 := fun q h1 h2 => by
  have := Int.le_of_dvd (by omega) h2
  have : 2 * q ≤ q * q := Int.mul_le_mul_of_nonneg_right h1 (by omega)
  omega
/-- a prime put to a number that it does not divide -/
theorem sqf_mul {p r : Int} (hp : Pr p) (hd : ¬ p ∣ r) (hr : 1 ≤ r) (hs : Sqf r) : Sqf (p * r) := by
  intro q h1 h2
  obtain ⟨l, hl⟩ := least_ex h1
  have lp := hl.pr
  have h3 : l * l ∣ p * r := Int.dvd_trans (Int.mul_dvd_mul hl.2.1 hl.2.1) h2
  have hp2 := hp.1
  by_cases e : l = p
  · subst e
    obtain ⟨c, hc⟩ := h3
    have : r = l * c := by
      have e : l * r = l * (l * c) := by rw [hc, Int.mul_assoc]
      exact Int.eq_of_mul_eq_mul_left (by omega) e
    exact hd ⟨c, this⟩
  · have nlp : ¬ l ∣ p := fun z => by
      have hle := Int.le_of_dvd (by omega) z
      exact hp.2 l hl.1 (by omega) z
    have h4 : l ∣ r := by
      rcases pr_mul lp (Int.dvd_trans ⟨l, rfl⟩ h3) with z | z
      · exact absurd z nlp
      · exact z
    obtain ⟨s, hs2⟩ := h4
    obtain ⟨c, hc⟩ := h3
    have h5 : p * s = l * c := by
      have e : l * (p * s) = l * (l * c) := by rw [← Int.mul_assoc l l c, ← hc, hs2]; grind
      exact Int.eq_of_mul_eq_mul_left (by have := hl.1; omega) e
    rcases pr_mul lp (show l ∣ p * s from ⟨c, h5⟩) with z | z
    · exact nlp z
    · exact hs l hl.1 (by rw [hs2]; exact Int.mul_dvd_mul (Int.dvd_refl l) z)
theorem oddp_cons {p e : Int} {t : List (Int × Int)} : oddp ((p, e) :: t) = (if e % 2 = 1 then p else 1) * oddp t := rfl
theorem oddp_spec {n : Int} {ps : List (Int × Int)} (h : PP n ps) : 1 ≤ oddp ps ∧ oddp ps ≤ n ∧ (oddp ps = n ↔ Sqf n) := by
  induction h with
  | one => exact ⟨by decide, by decide, ⟨fun _ => sqf_one, fun _ => rfl⟩⟩
  | more hl hn hd hr hk h ih =>
    rename_i n p r k t
    obtain ⟨i1, i2, i3⟩ := ih
    have p2 := hl.1
    have pk := pow_ge' p2 hk
    rw [oddp_cons]
    have hb : (1 : Int) ≤ (if (k : Int) % 2 = 1 then p else 1) ∧ (if (k : Int) % 2 = 1 then p else 1) ≤ p := by split <;> omega
    generalize hf : (if (k : Int) % 2 = 1 then p else 1) = f at hb
    have g1 : 1 * 1 ≤ f * oddp t := Int.mul_le_mul hb.1 i1 (by omega) (by omega)
    have g2 : f * oddp t ≤ p * r := Int.mul_le_mul hb.2 i2 (by omega) (by omega)
    have g3 : p * r ≤ p ^ k * r := Int.mul_le_mul_of_nonneg_right pk (by omega)
    refine ⟨by omega, by omega, ?_⟩
    by_cases k1 : k = 1
    · subst k1
      have ef : f = p := by rw [← hf]; rfl
      have en : n = p * r := by rw [hn, show (1 : Nat) = 0 + 1 from rfl, Int.pow_succ, Int.pow_zero, Int.one_mul]
      rw [ef, en]
      constructor
      · intro e
        exact sqf_mul hl.pr hd hr (i3.mp (Int.eq_of_mul_eq_mul_left (by omega) e))
      · intro hs
        rw [i3.mpr (hs.of_dvd ⟨p, Int.mul_comm p r⟩)]
    · have k2 : 2 ≤ k := by omega
      have pk2 := pow_gt' p2 k2
      have g4 : p * r < p ^ k * r := Int.mul_lt_mul_of_pos_right pk2 (by omega)
      constructor
      · intro e; omega
      · intro hs
        exfalso
        refine hs p p2 ?_
        obtain ⟨j, rfl⟩ : ∃ j, k = j + 2 := ⟨k - 2, by omega⟩
        refine ⟨p ^ j * r, ?_⟩
        rw [hn, Int.pow_succ, Int.pow_succ]; grind
/-- what bar_of tells of a positive integer -/
def BarOf (n : Int) : Option Int → Prop
  | none => ∀ q, Pr q → q ∣ n → q % 4 ≠ 3
  | some p => Pr p ∧ p ∣ n ∧ p % 4 = 3 ∧ ∀ q, Pr q → q ∣ n → q % 4 = 3 → p ≤ q
def barL (ps : List (Int × Int)) : Option Int := (ps.find? fun x => decide (x.1 % 4 = 3)).map (·.1)
theorem pr_dvd_pr {q p : Int} (hq : Pr q) (hp : Pr p) (h : q ∣ p) : q = p := by
  have hp2 := hp.1
  have hle := Int.le_of_dvd (by omega) h
  apply Decidable.byContradiction; intro e
  exact hp.2 q hq.1 (by omega) h
theorem pr_dvd_pow {q p : Int} (hq : Pr q) (hp : Pr p) : ∀ k : Nat, q ∣ p ^ k → q = p
  | 0, h => by
    rw [Int.pow_zero] at h
    have := Int.le_of_dvd (by omega) h
    have := hq.1; omega
  | k + 1, h => by
    rw [Int.pow_succ] at h
    rcases pr_mul hq h with h | h
    · exact pr_dvd_pow hq hp k h
    · exact pr_dvd_pr hq hp h
theorem bar_spec {n : Int} {ps : List (Int × Int)} (h : PP n ps) : BarOf n (barL ps) := by
  induction h with
  | one =>
    intro q hq hd
    have := Int.le_of_dvd (by omega) hd
    have := hq.1; omega
  | more hl hn hd hr hk h ih =>
    rename_i n p r k t
    have pp := hl.pr
    have drn : r ∣ n := ⟨p ^ k, by rw [hn, Int.mul_comm]⟩
    have cases_ : ∀ q, Pr q → q ∣ n → q = p ∨ q ∣ r := by
      intro q hq hqn
      rw [hn] at hqn
      rcases pr_mul hq hqn with z | z
      · exact .inl (pr_dvd_pow hq pp k z)
      · exact .inr z
    unfold barL
    rw [List.find?_cons]
    by_cases c : p % 4 = 3
    · simp only [c, decide_true]
      exact ⟨pp, hl.2.1, c, fun q hq hqn h3 => least_le hl hq.1 hqn⟩
    · have e : decide ((p, (k : Int)).1 % 4 = 3) = false := decide_eq_false c
      simp only [e]
      have ih' : BarOf r ((t.find? fun x => decide (x.1 % 4 = 3)).map (·.1)) := ih
      cases hb : (t.find? fun x => decide (x.1 % 4 = 3)).map (·.1) with
      | none =>
        rw [hb] at ih'
        intro q hq hqn h3
        rcases cases_ q hq hqn with rfl | z
        · exact c h3
        · exact ih' q hq z h3
      | some b =>
        rw [hb] at ih'
        obtain ⟨b1, b2, b3, b4⟩ := ih'
        refine ⟨b1, Int.dvd_trans b2 drn, b3, fun q hq hqn h3 => ?_⟩
        rcases cases_ q hq hqn with rfl | z
        · exact absurd h3 c
        · exact b4 q hq z h3
end K72
set_option Elab.async false
set_option linter.all false
set_option maxRecDepth 100000
set_option maxHeartbeats 4000000
/-! # k72, the ground: the own error NumberError, whose __init__ calls super().__init__(text) and stores one field -/
namespace K72
open PySem PySem.W PySem.Calls PyProof.Rows PySem.HandSPX
def nE : Expr := .Call (.Attribute (.Call (.Name "super" ⟨16, 8, 16, 13⟩) [] [] ⟨16, 8, 16, 15⟩) "__init__" ⟨16, 8, 16, 24⟩) [.Constant (.str "an integer is not allowed here") 0 ⟨16, 25, 16, 57⟩] [] ⟨16, 8, 16, 58⟩
def nS : Stmt := .Assign [.Attribute (.Name "self" ⟨17, 8, 17, 12⟩) "number" ⟨17, 8, 17, 19⟩] (.Name "number" ⟨17, 22, 17, 28⟩) ⟨17, 8, 17, 28⟩
theorem num_body : L2.defBody sNum = [.Expr nE ⟨16, 8, 16, 58⟩, nS] := rfl
/-- what the written part says of NumberError, at C, of its __init__, at fI, of that one's code, at cda, and its cell, at cc -/
structure NumTxt (P : Program) (K : Frag) (mg : Str → Option Value) (C fI cda cc : Addr) : Prop where
  gC : mg "NumberError" = some (.ref C)
  cls : ∃ nm q N bs bm sn sub ab col dd k0 k1 k2 k3 k5, K.lookup C = some (excClassObj nm q C N bs bm true sn sub ab col dd k0 k1 k2 k3 k5 "ValueError.__new__") ∧ refsVE bm = true
  sa : findIn K (.ref C) "__setattr__" = some (some (.builtin "object.__setattr__"))
  noN : findIn K (.ref C) "number" = some none
  iC : findIn K (.ref C) "__init__" = some (some (.ref fI))
  tI : typeIn K (.ref fI) = some (.type "function")
  kC : keepIn K (.ref C) = true
  exC : subIn K (.ref C) (.type "BaseException") = some true
  tyC : typeIn K (.ref C) = some (.type "type")
  fn : ∃ (oc : Value) (od : Option Addr) (kV doc pm : Value) (an : Option Addr) (ct : Value) (osl : Array (Option Value)),
    K.lookup fI = some ⟨oc, od, .func (ksFn "__init__" "NumberError.__init__" (L2.defArgs sNum) (L2.defBody sNum) (L2.defScope sNum) .none kV doc pm an (.ref cda) ct cc), osl⟩ ∧ codeIn K (.ref cda) "NumberError.__init__" = true
  code : ∃ (ccl : Value) (cdd : Option Addr) (vs : Array Value) (ccs : Array (Option Value)) (file : Str) (tf : Tok), K.lookup cda = some ⟨ccl, cdd, .fields vs, ccs⟩ ∧ vs[2]? = some (.str file tf) ∧ ((P.main.file : Str) == file) = true
  cell : ∃ (cl : Value) (cld : Option Addr) (csl : Array (Option Value)), K.lookup cc = some ⟨cl, cld, .cell (some (.ref C)), csl⟩
  mro : mroIn K C (.ref C) = some true
  sup : nsIn K mainGlobals "super" = some none
  opq : nsIn K cStatics "thirdparty.any" = some none
  si : ks_superIn K C C "__init__" = some (some (.builtin "ValueError.__init__"))
  sv : subIn K (.ref C) (.type "ValueError") = some true
  ptop : (P.main.scope.names.lookup ("super" : Str)).isSome = false
theorem one_fits (v : Value) : [v].length ≤ sizeLine := by
  rw [sizeLine_eq]
  exact (by decide : 1 ≤ 16777216)
/-- what __init__ leaves of a fresh exception at x -/
structure InitEnd (h h' : Heap) (x C dx : Addr) (v : Value) : Prop where
  keep : ∀ b o, b ≠ x → h.get? b = some o → h'.get? b = some o
  obj : ∃ t1 : Addr, h'.get? x = some { cls := .ref C, dict := some dx, data := .fields #[.ref t1, .none, .none, .none, .bool false, .none] }
  dbig : h.objs.size ≤ dx
  dne : dx ≠ x
  ns : h'.Ns1 dx (fun y => if y = "number" then some v else none)
section
variable {prog : Program} {w : World} {A : Around} {E : Value → Shared → Prop} {R : Result → Shared → Prop} {s : Shared} {K : Frag} {mg : Str → Option Value} {C fI cda cc : Addr}
/-- the method-wrapper of ValueError.__init__, called -/
theorem call_mw {hp : Heap} {g : Array GenState} {d : Drawn} {t : Nat} {os : OsState} (T : NumTxt prog K mg C fI cda cc) (X : K.In hp) {u e t0 : Addr} {rest : List Value} {Q : Value → Shared → Prop} (he : hp.get? e = some (excO C t0)) (hu : hp.get? u = some (kxs_mw "ValueError.__init__" e)) (hrest : rest.length ≤ sizeLine)
    (hq : ∀ h' t1, (∀ b o, b ≠ e → hp.get? b = some o → h'.get? b = some o) → h'.get? e = some (excO C t1) → Q .none ⟨h', g, d, t, os⟩) :
    wpAny (model prog w) A (call (.ref u) rest) Q E ⟨hp, g, d, t, os⟩ := by
  obtain ⟨nm, q, N, bs, bm, sn, sub, ab, col, dd, k0, k1, k2, k3, k5, hC, hbm⟩ := T.cls
  refine wpAny_call (codeAny_of_tree ?_)
  show wpAny _ A.in1 (callAny (.ref u) ⟨rest, []⟩) _ _ _
  simp only [callAny]
  refine wpAny_bind (wpAny_load hu ?_)
  simp only [kxs_mw, show (Value.type "method-wrapper" == Value.type "method" || Value.type "method-wrapper" == Value.type "builtin_function_or_method" || Value.type "method-wrapper" == Value.type "method-wrapper") = true by decide, if_true]
  refine KFB.if_so (by decide) ?_
  refine wpAny_bind (check_bound_init F.excBase_ValueError.toExcCallFacts (X _ _ hC) he rfl ?_)
  refine wpAny_bind (wpAny_pure (wpAny_pure ?_))
  refine ⟨plainId_quiet F.excBase_ValueError.init.plain _, codeAny_builtin F.excBase_ValueError.initEntry ?_⟩
  exact exc_init_tree (cls := .ref C) (t0 := t0) (dv := none) (c2 := .none) (c3 := .none) (b4 := .bool false) he hrest fun h' k1 k2 _ => hq h' _ k1 k2
theorem callWith_mw {M : Model} {i : String} {pos : Pos} {u x : Addr} {env : Env} {e : Expr} {rest : List Expr} {Q : Value → Shared → Prop}
    (h : wpAny M A (spliced (backTo pos (starEach (e :: rest) env))) (fun us s₁ => KxsAt i u x s₁.heap ∧ wpAny M A (call (.ref u) us) Q E s₁) E s)
    (he : starEach (e :: rest) env = (false, eval e env) :: starEach rest env := by rfl) (hpl : (backTo pos (starEach rest env)).any (·.1) = false := by rfl) :
    wpAny M A (callWith pos (.ref u) [] (backTo pos (starEach (e :: rest) env)) []) Q E s := by
  rw [he] at h ⊢
  refine kxs_callWith (i := i) (x := x) ?_ (evalArgs_plain h)
  show (false || (backTo pos (starEach rest env)).any (·.1)) = false
  rw [hpl]
  rfl
theorem ldN {M : Model} {env : Env} {m : Str → Option Value} {x : Str} {pos : Pos} {v : Value} {Q : Value → Shared → Prop} (hn : s.heap.Ns env.locals m) (hv : m x = some v) (hk : env.scope.kind = .function) (hl : env.kindOf x = some .local) (hd : (x == ("__debug__" : Str)) = false) (h : Q v s) :
    wpAny M A (eval (.Name x pos) env) Q E s := wpAny_Name (wpAny_loadName_local hk hl hn hv h) hd
theorem num_init (T : NumTxt prog K mg C fI cda cc) {x t0 : Addr} {v : Value} (X : K.In s.heap) (hlim : s.heap.NoLimit) (G : s.heap.Ns mainGlobals mg) (B : ∃ mb, s.heap.Ns builtinsNs mb ∧ ∀ y : Str, y ≠ "__name__" → mb y = bootBuiltins y) (hx : s.heap.get? x = some (excO C t0)) (hnx : K.lookup x = none) (hroom : A.depth < recursionLimit)
    (hq : ∀ h' tk dx, InitEnd s.heap h' x C dx v → R (.ok (.ret .none)) { s with heap := h', toks := tk }) :
    codeAny (model prog w) A (.call (.ref fI) ⟨[.ref x, v], []⟩) R s := by
  obtain ⟨oc, od, kV, doc, pm, an, ct, osl, ho, hcd⟩ := T.fn
  obtain ⟨nm, q, N, bs, bm, sn, sub, ab, col, dd, k0, k1, k2, k3, k5, hC, hbm⟩ := T.cls
  obtain ⟨ccl, cdd, vs, ccs, file, tf, hcode, hvs, hfile⟩ := T.code
  obtain ⟨cl, cld, csl, hcell⟩ := T.cell
  obtain ⟨mb, hB, hmb⟩ := B
  have hcl : clsIn K C = some { name := nm, bases := bs, mro := .ref C :: bm, ns := N, qualname := q, hasDict := true, slotNames := sn, subclasses := sub, abstract := ab, collection := col, hasDel := false } := by unfold clsIn; rw [hC] <;> rfl
  refine ks_codeAny_call_defAt (fd := ksFn "__init__" "NumberError.__init__" (L2.defArgs sNum) (L2.defBody sNum) (L2.defScope sNum) .none kV doc pm an (.ref cda) ct cc) (body := L2.defBody sNum) (binds := [("self", .ref x), ("number", v)]) hroom (X _ _ ho) rfl hlim (codeRec_of X hcd) rfl
    (BindsTo.of_eq (by first | rfl | with_unfolding_all rfl)) (show ∀ x ∈ (L2.defScope sNum).names, x.2 ≠ .cell by decide +kernel) (locs rfl) (fun h₁ hns k => ?_) rfl rfl rfl
  have X₁ : K.In h₁ := X.keeps k
  have hx₁ := k _ _ hx
  show _root_.PySem.wpAt _ _ _ (execs (L2.defBody sNum) (ksEnv "NumberError.__init__" (L2.defScope sNum) s.heap.objs.size fI (.ref cda) cc)) _ _ _
  rw [num_body]
  refine ks_wpAt_execs_cons (ks_wpAt_Expr_any ?_)
  unfold nE
  refine ks_wpAt_MethodCall ?_
  refine ks_wpAt_super_base (env := ksEnv "NumberError.__init__" (L2.defScope sNum) s.heap.objs.size fI (.ref cda) cc) (by first | rfl | decide +kernel) (by first | rfl | decide +kernel) (by decide) rfl (X₁ _ _ ho) rfl (by rfl) rfl (X₁ _ _ hcode) rfl hvs hfile T.ptop ?_
  refine ks_loadName_global (by rfl) (by rfl) (loadGlobal_builtin (env := ksEnv "NumberError.__init__" (L2.defScope sNum) s.heap.objs.size fI (.ref cda) cc) (G.keeps k) (mg_none_of X G T.sup) (hB.keeps k) ((hmb _ (by decide +kernel)).trans (by first | rfl | kernel_rfl | boot_by_name)) ⟨rfl, ?_⟩)
  refine wpAny_loadName_free (by rfl) (by rfl) rfl ⟨_, X₁ _ _ hcell, rfl⟩ ?_
  refine wpAny_loadName_local (by rfl) (by rfl) hns rfl ?_
  refine ks_wpAny_isType_cls (X₁ _ _ hC) rfl ⟨rfl, ?_⟩
  refine ks_wpAny_call_super (X₁ _ _ hC) rfl hx₁ rfl (fun c e => nomatch e) (looks_mroIn X₁ T.mro) (fun h₂ hso k₂ => ?_)
  have X₂ : K.In h₂ := X₁.keeps k₂
  have hx₂ := k₂ _ _ hx₁
  have hin : Looks (model prog w) h₂ (isInstance (.ref x) (.type "ValueError")) true :=
    (show InstAt h₂ x (excO C t0) C none from ⟨hx₂, rfl, rfl, trivial⟩).type.andThen (looks_subIn X₂ T.sv)
  have hxC : x ≠ C := fun e => by rw [e, hC] at hnx; cases hnx
  have hsi := T.si
  unfold ks_superIn at hsi
  rw [hcl] at hsi
  refine kxs_getMethod kxs_ValueError hso (looks_opaque X₂ T.opq) (l₀ := .ref C :: bm) ((looks_clsIn X₂ hcl).andThen .now) rfl X₂ hsi hin hxC (by decide) ?_
  generalize hh : h₂.push (kxs_mw "ValueError.__init__" x) = h₃
  have k₃ : ∀ b o, h₂.get? b = some o → h₃.get? b = some o := fun b o e => by rw [← hh]; exact Heap.get?_push_of_some _ e
  have hu : h₃.get? h₂.objs.size = some (kxs_mw "ValueError.__init__" x) := by rw [← hh]; exact Heap.get?_push_at rfl rfl
  refine callWith_mw (x := x) (spliced_more (Constant_str (spliced_none ⟨hu, ?_⟩)))
  refine call_mw T (X₂.keeps k₃) (k₃ _ _ hx₂) hu (one_fits _) (fun h₄ t1 k₄ hx₄ => ?_)
  -- self.number = number
  have X₄ : K.In h₄ := fun a o e => k₄ a o (fun z => by rw [z, hnx] at e; cases e) (X₂.keeps k₃ a o e)
  have hL : h₁.objs.size = h₁.objs.size := rfl
  have hxL : s.heap.objs.size ≠ x := Nat.ne_of_gt (Heap.lt_size hx)
  have hns₄ : h₄.Ns s.heap.objs.size fun y => List.lookup y [((Str.ofString "self"), Value.ref x), (Str.ofString "number", v)].reverse := by
    refine hns.at fun o e => ?_
    exact k₄ _ _ hxL (k₃ _ _ (k₂ _ _ e))
  show _root_.PySem.wpAt _ _ _ (execs [nS] _) _ _ _
  refine wpAt_of_wpAny ?_
  unfold nS
  refine wpAny_execs_cons (plainObj_wpAny_Assign_Attribute ?_)
  refine ldN (v := v) hns₄ (by rfl) (by rfl) (by rfl) (by decide) ?_
  refine ldN (v := .ref x) hns₄ (by rfl) (by rfl) (by rfl) (by decide) ?_
  refine set_plain X₄ (ox := excO C t1) (od := none) ⟨hx₄, rfl, rfl, trivial⟩ T.sa ?_
  refine HandSPX.exc_osa X₄ hx₄ hcl (show refsVE (.ref C :: bm) = true from hbm) rfl T.noN (fun h₅ tk₅ dx k₅ dn dne hx₅ hn₅ => ?_)
  have old : ∀ b o, b ≠ x → s.heap.get? b = some o → h₅.get? b = some o := fun b o hb e => k₅ b o hb (k₄ b o hb (k₃ _ _ (k₂ _ _ (k _ _ e))))
  have big : s.heap.objs.size ≤ dx := Nat.le_of_lt (Nat.lt_of_lt_of_le hns₄.lt dn)
  exact wpAny_execs_nil (hq h₅ tk₅ dx ⟨old, ⟨t1, hx₅⟩, big, dne, hn₅⟩)
/-- a made NumberError -/
structure OwnMade (h h' : Heap) (e C d : Addr) (v : Value) : Prop where
  keep : ∀ b o, h.get? b = some o → h'.get? b = some o
  new : h.objs.size ≤ e
  obj : ∃ t1 : Addr, h'.get? e = some { cls := .ref C, dict := some d, data := .fields #[.ref t1, .none, .none, .none, .bool false, .none] }
  dbig : h.objs.size ≤ d
  dne : d ≠ e
  ns : h'.Ns1 d (fun y => if y = "number" then some v else none)
theorem num_made (T : NumTxt prog K mg C fI cda cc) {v : Value} (X : K.In s.heap) (hlim : s.heap.NoLimit) (G : s.heap.Ns mainGlobals mg) (B : ∃ mb, s.heap.Ns builtinsNs mb ∧ ∀ y : Str, y ≠ "__name__" → mb y = bootBuiltins y) (hroom : A.depth + 1 < recursionLimit)
    (hq : ∀ h' tk e d, OwnMade s.heap h' e C d v → R (.ok (.ret (.ref e))) { s with heap := h', toks := tk }) :
    codeAny (model prog w) A (.call (.ref C) ⟨[v], []⟩) R s := by
  obtain ⟨nm, q, N, bs, bm, sn, sub, ab, col, dd, k0, k1, k2, k3, k5, hC, hbm⟩ := T.cls
  obtain ⟨mb, hB, hmb⟩ := B
  obtain ⟨hp, g, dr, tk, os⟩ := s
  have k : ∀ b o, hp.get? b = some o → ((hp.push (kdv_tup [v])).push (excO C hp.objs.size)).get? b = some o := fun b o e => Heap.get?_push_of_some _ (Heap.get?_push_of_some _ e)
  have hget : ((hp.push (kdv_tup [v])).push (excO C hp.objs.size)).get? (hp.objs.size + 1) = some (excO C hp.objs.size) := by heap_get
  have hnx : K.lookup (hp.objs.size + 1) = none := by
    cases e : K.lookup (hp.objs.size + 1) with
    | none => rfl
    | some o =>
      have z : hp.get? (hp.objs.size + 1) = some o := X _ _ e
      exact absurd (Nat.lt_of_succ_lt (Heap.lt_size z)) (Nat.lt_irrefl _)
  refine call_own F.excBase_ValueError (fun Y => refsVE_contains Y bm hbm) (X _ _ hC) (looks_findIn X T.iC) (fun self => bind_fn X self T.tI) (one_fits v) ?_
  refine num_init (s := ⟨(hp.push (kdv_tup [v])).push (excO C hp.objs.size), g, dr, tk, os⟩) T (X.keeps k) (hlim.keeps k) (G.keeps k) ⟨mb, hB.keeps k, hmb⟩ hget hnx ?_ fun h' tk' dx ⟨k', hx, dn, dne, hns⟩ => ?_
  · show A.depth + 1 < recursionLimit
    exact hroom
  · have old : ∀ b o, hp.get? b = some o → h'.get? b = some o := fun b o e => k' b o (Nat.ne_of_lt (Nat.lt_succ_of_lt (Heap.lt_size e))) (k b o e)
    have z : hp.objs.size + 1 + 1 ≤ dx := by
      have q := dn
      simp only [Heap.size_push] at q
      exact q
    exact ⟨rfl, hq h' tk' (hp.objs.size + 1) dx ⟨old, Nat.le_succ _, hx, Nat.le_trans (Nat.le_trans (Nat.le_succ _) (Nat.le_succ _)) z, dne, hns⟩⟩
end
end K72
namespace L2
open PySem PySem.Spec PyProof.Rows
section
variable {X : Cx} {C fI cda cc : Addr}
theorem relO_num {v : V} {v' : Value} (r : RelV v v') (f : Str) : RelO (List.lookup f [(("number" : Str), v)]) (if f = "number" then some v' else none) := by
  by_cases hw : f = "number"
  · subst hw
    rw [if_pos rfl]
    have q : List.lookup ("number" : Str) [(("number" : Str), v)] = some v := by simp [List.lookup]
    rw [q]
    exact r
  · rw [if_neg hw]
    have qw : (f == ("number" : Str)) = false := by simpa using hw
    have q2 : List.lookup f [(("number" : Str), v)] = none := by simp [List.lookup, qw]
    rw [q2]
    trivial
/-- NumberError(e) -/
def tMkNum (C : Addr) (ta : TA) : St → Hp → XK → Prop := fun σ H Q => ta σ H fun vs H1 => ∃ v, vs = [v] ∧ ∀ d, H1 d = none → Q (.ref C) (some d) (upd H1 d (.xd [(("number" : Str), v)]))
theorem pmk_num {a : Expr} {ta : TA} {p pos : Pos} {k : Nat} (T : K72.NumTxt X.prog X.K X.mg C fI cda cc) (hr : Room k X.A) (ha : PA X [a] ta) (hg : Gl X "NumberError" := by rfl)
    (he : starEach (a :: []) X.env = (false, eval a X.env) :: starEach [] X.env := by rfl) (hpl : (backTo pos (starEach [] X.env)).any (·.1) = false := by rfl) :
    PMk X (.Call (.Name "NumberError" p) [a] [] pos) (tMkNum C ta) := by
  intro pins s σ H Q I h
  refine wpAny_Call_Name_kw (ld_glob I hg T.gC ?_)
  refine PySem.W.callWith_K (h₀ := X.base) I.ok.mod.kin T.kC (thn (ha.run pos pins s σ H _ I h) fun us s1 hh => ?_) he hpl
  obtain ⟨vs, H1, I1, r1, v, ev, q1⟩ := hh
  subst ev
  refine ⟨I1.kIn, ?_⟩
  cases r1 with
  | cons rv rn =>
    rename_i v' us'
    cases rn
    show wpAny _ _ (call (.ref C) [v']) _ _ _
    have hlim := I1.nolimit
    have hG := I1.mod.glob.keeps I1.bk
    obtain ⟨mb, hB, hmb⟩ := I1.mod.blt
    have hB2 := hB.keeps I1.bk
    obtain ⟨hp, g, dr, tk, os⟩ := s1
    refine wpAny_call (K72.num_made T I1.kIn hlim hG ⟨mb, hB2, hmb⟩ (by have := hr.dp; omega) fun h' tk' e d M => ?_)
    show MkP X pins σ Q (.ref e) ⟨h', g, dr, tk', os⟩
    obtain ⟨t1, hoe⟩ := M.obj
    have hns := M.ns
    obtain ⟨G', g1, g2⟩ := restrict h' fun b => decide (b ≠ e)
    have gk : ∀ b, b ≠ e → G'.get? b = h'.get? b := fun b hb => g1 b (decide_eq_true hb)
    have ge : G'.get? e = none := g2 e (by simp)
    have old : ∀ b o, hp.get? b = some o → G'.get? b = some o := fun b o q => (gk b (Nat.ne_of_lt (Nat.lt_of_lt_of_le (Heap.lt_size q) M.new))).trans (M.keep b o q)
    have ob : ObjOk X.prog X.w (upd H1 d (.xd [(("number" : Str), v)])) G' d (.xd [(("number" : Str), v)]) :=
      ⟨_, hns.at (fun o q => (gk d M.dne).trans q), fun f => relO_num rv f⟩
    have J : Inv X pins σ (upd H1 d (.xd [(("number" : Str), v)])) ⟨G', g, dr, tk', os⟩ := I1.laid (t' := tk') old M.dbig ob
    refine ⟨e, _, _, ⟨G', g, dr, tk', os⟩, _, .ref C, some d, rfl, J, fun b o q => ?_, ge, hoe, ⟨rfl, rfl⟩, rfl, rfl, ?_, rfl, I1.bare, raises_own T.exC T.tyC, q1 d (I1.hok.fresh M.dbig)⟩
    · by_cases hb : b = e
      · have q' : G'.get? b = some o := q
        rw [hb, ge] at q'; cases q'
      · exact (gk b hb).symm.trans q
    · rw [upd_ne (Ne.symm M.dne)]
      exact I1.hok.fresh M.new
/-- raise NumberError(e) -/
def tRaiseNum (C : Addr) (W : WX) (ta : TA) : TS := fun _ σ H => tMkNum C ta σ H fun cls d H' => W cls d σ H'
theorem ps_raiseNum {a : Expr} {ta : TA} {W : WX} {p pos pos2 : Pos} {k : Nat} (hc : X.calm = true) (T : K72.NumTxt X.prog X.K X.mg C fI cda cc) (hr : Room k X.A) (tk : Takes X W) (ha : PA X [a] ta) (hg : Gl X "NumberError" := by rfl)
    (he : starEach (a :: []) X.env = (false, eval a X.env) :: starEach [] X.env := by rfl) (hpl : (backTo pos (starEach [] X.env)).any (·.1) = false := by rfl) :
    PS X (.Raise (some (.Call (.Name "NumberError" p) [a] [] pos)) none pos2) (tRaiseNum C W ta) := ps_raise hc tk (pmk_num T hr ha hg he hpl)
/-- math.isqrt -/
def rIsqrt : List V → Hp → VK → Prop := fun vs H Q => ∃ a : Int, vs = [.int a] ∧ 0 ≤ a ∧ a < 2 ^ 64 ∧ Q (.int ((Float64.isqrt a.toNat : Nat) : Int)) H
theorem cr_isqrt : CallR X (.builtin "math.isqrt") rIsqrt := by
  intro pins s σ H vs us Q I r h
  obtain ⟨a, rfl, h0, h1, q⟩ := h
  cases r with
  | cons ra rn =>
    cases rn
    obtain ⟨t, rfl⟩ := ra
    exact PySem.W.mg_isqrt h0 h1 ⟨.int _, H, I.tok _, ⟨_, rfl⟩, q⟩
/-- isinstance(e, c), e the exception with a dict that the suite holds -/
def rIsD (K : PySem.W.Frag) (D a dd : Addr) : List V → Hp → VK → Prop := fun xs H Q => ∃ (c : V) (cv : Value) (b : Bool) (fs : List (Str × V)), xs = [.ref a, c] ∧ (∀ u, RelV c u → u = cv) ∧ H dd = some (.xd fs) ∧ PySem.W.kitOne K (.ref D) cv = some b ∧ Q (.bl b) H
theorem call_isD {a D dd : Addr} {oe : Obj} {pn : List (Addr × Obj)} (C : ExcC X.K D) (hz : Zc (.ref D) (some dd) oe) (hf : ∃ vs, oe.data = .fields vs) : CallR (X.suite a ((a, oe) :: pn)) (.builtin "isinstance") (rIsD X.K D a dd) := by
  intro pins s σ H xs us Q I r h
  obtain ⟨c, cv, b, fs, rfl, hcv, hd, e, q⟩ := h
  cases r with
  | cons rx rr =>
    cases rr with
    | cons rt rr =>
      cases rr
      cases rx
      have ec := hcv _ rt
      subst ec
      obtain ⟨hget, _⟩ := I.pin (a, oe) (List.mem_append.mpr (.inl List.mem_cons_self))
      obtain ⟨vs, hv⟩ := hf
      have hx : ObjOk X.prog X.w H s.heap dd (.xd fs) := I.hok dd _ hd
      obtain ⟨mA, hns, hr⟩ := hx
      obtain ⟨od, ho, hl⟩ := lookIn_ns hns
      have J : PySem.W.InstAt s.heap a oe D (some od) := by
        obtain ⟨oc, od', oda, osl⟩ := oe
        obtain ⟨h1, h2⟩ := hz
        dsimp only at h1 h2 hv
        subst h1 h2 hv
        exact ⟨hget, rfl, rfl, ho⟩
      exact PySem.W.kia_one (PySem.W.kitx_exc (by obtain ⟨cd, hc, _⟩ := PySem.W.any_some C.hd; rw [hc] <;> rfl) C.hg C.hk C.hs C.ha C.hn C.ht C.hm) I.kIn J e (fun z => nomatch z) fun tk => ⟨.bl b, H, I.kept (t' := tk) fun _ _ z => z, rfl, q⟩
end
end L2
set_option Elab.async false
set_option linter.all false
set_option maxRecDepth 100000
set_option maxHeartbeats 4000000
/-! # k72: how the readings are computed: by simp over the readings' own words -/
namespace K72
open PySem PySem.Spec PyProof.Rows L2
theorem scal_int {a b : Int} : scal (V.int a) (V.int b) = true := rfl
theorem dec_bt {p : Prop} [Decidable p] : (decide p = true) = p := by simp
/-- the body of a while with its invariant and measure; a class, so that simp leaves it as it stands -/
class LoopD (α : Type) where
  S : α → L2.St → Hp → Prop
  μ : α → Nat
  a : α
  tb : TS
  D : Ends
/-- behind the body a datum with a lesser measure tells the state -/
def Loop {α : Type} [d : LoopD α] (σ : L2.St) (H : Hp) : Prop :=
  ∃ N : L2.St → Hp → Prop, (∀ σ' H', N σ' H' → ∃ a', d.S a' σ' H' ∧ d.μ a' < d.μ d.a) ∧ d.tb { d.D with nx := N, ct := N, bk := d.D.nx } σ H
theorem loop_in {α : Type} {S : α → L2.St → Hp → Prop} {μ : α → Nat} {a : α} {tb : TS} {D : Ends} {σ : L2.St} {H : Hp}
    (h : ∀ N : L2.St → Hp → Prop, (∀ a' σ' H', S a' σ' H' → μ a' < μ a → N σ' H') → tb { D with nx := N, ct := N, bk := D.nx } σ H) : @Loop α ⟨S, μ, a, tb, D⟩ σ H :=
  ⟨fun σ' H' => ∃ a', S a' σ' H' ∧ μ a' < μ a, fun _ _ h => h, h _ fun a' _ _ h1 h2 => ⟨a', h1, h2⟩⟩
/-- a while by a state that is told by a datum a, an invariant and a measure -/
theorem while_st {α : Type} {c : TT} {tb : TS} {D : Ends} {σ : L2.St} {H : Hp} (S : α → L2.St → Hp → Prop) (μ : α → Nat) (a0 : α) (h0 : S a0 σ H)
    (hs : ∀ a σ H, S a σ H → c σ H fun b H1 => if b = true then @Loop α ⟨S, μ, a, tb, D⟩ σ H1 else D.nx σ H1) : tWhile c tb D σ H := by
  refine ⟨fun m σ H => ∃ a, m = μ a ∧ S a σ H, ⟨_, a0, rfl, h0⟩, ?_⟩
  rintro m σ H ⟨a, rfl, p⟩
  have q := hs a σ H p
  refine cast (congrArg (c σ H) ?_) q
  funext b H1
  refine propext ?_
  cases b with
  | false => exact Iff.rfl
  | true =>
    simp only [if_true]
    constructor
    · rintro ⟨N, h1, h2⟩
      exact ⟨N, fun σ' H' z => by obtain ⟨a', p', l⟩ := h1 σ' H' z; exact ⟨_, l, a', rfl, p'⟩, h2⟩
    · rintro ⟨N, h1, h2⟩
      exact ⟨N, fun σ' H' z => by obtain ⟨m', l, a', rfl, p'⟩ := h1 σ' H' z; exact ⟨a', p', l⟩, h2⟩
/-- the turns of a for over what J walks -/
def ForJ (J : It) (g : TG) (tb : TS) (D : Ends) (σ : L2.St) (H : Hp) : Prop := ∃ W : Nat → Nat → L2.St → Hp → Prop, (∃ m, W 0 m σ H) ∧ ∀ i m σ H, W i m σ H →
  (J.stop i H ∧ D.nx σ H) ∨ (J.go i H ∧ ∃ N : L2.St → Hp → Prop, (∀ σ' H', N σ' H' → ∃ m', m' < m ∧ W (i + 1) m' σ' H') ∧ ∀ x H', J.yld i H x H' → g x σ H' fun σ2 H2 => tb { D with nx := N, ct := N, bk := D.nx } σ2 H2)
theorem tFor_l {K : PySem.W.Frag} {te : TE} {g : TG} {tb : TS} {D : Ends} {σ : L2.St} {H : Hp} : tFor (iList K te) g tb D σ H = te σ H fun x H1 => ∃ a, x = .ref a ∧ (∃ xs, SqL K H1 a xs) ∧ ForJ (Itl K a) g tb D σ H1 := rfl
theorem tFor_t {K : PySem.W.Frag} {te : TE} {g : TG} {tb : TS} {D : Ends} {σ : L2.St} {H : Hp} : tFor (iTup K te) g tb D σ H = te σ H fun x H1 => ∃ a, x = .ref a ∧ (∃ xs, SqT K H1 a xs) ∧ ForJ (Itt K a) g tb D σ H1 := rfl
theorem tFor_r1 {ta : TA} {g : TG} {tb : TS} {D : Ends} {σ : L2.St} {H : Hp} : tFor (iRng1 ta) g tb D σ H = ta σ H fun vs H1 => ∃ j : Int, vs = [.int j] ∧ -(2 ^ 62) ≤ j ∧ j < 2 ^ 62 ∧ ForJ (Itr 0 j.toNat) g tb D σ H1 := rfl
theorem tFor_r2 {ta : TA} {g : TG} {tb : TS} {D : Ends} {σ : L2.St} {H : Hp} : tFor (iRng2 ta) g tb D σ H = ta σ H fun vs H1 => ∃ i j : Int, vs = [.int i, .int j] ∧ (-(2 ^ 62) ≤ i ∧ i < 2 ^ 62 ∧ -(2 ^ 62) ≤ j ∧ j < 2 ^ 62) ∧ ForJ (Itr i (j - i).toNat) g tb D σ H1 := rfl
theorem for_l {K : PySem.W.Frag} {a : Addr} {xs : List V} {g : TG} {tb : TS} {D : Ends} {σ : L2.St} {H : Hp} (Pv : Nat → L2.St → Hp → Prop) (h0 : Pv 0 σ H) (hl : ∀ i σ H, i ≤ xs.length → Pv i σ H → SqL K H a xs)
    (hs : ∀ i x σ H, xs[i]? = some x → Pv i σ H → ∀ N : L2.St → Hp → Prop, (∀ σ' H', Pv (i + 1) σ' H' → N σ' H') → g x σ H fun σ2 H2 => tb { D with nx := N, ct := N, bk := D.nx } σ2 H2) (hd : ∀ σ H, Pv xs.length σ H → D.nx σ H) :
    ForJ (Itl K a) g tb D σ H :=
  for_list Pv h0 hl (fun i x σ H hi p => hs i x σ H hi p _ fun _ _ h => h) hd
theorem for_t {K : PySem.W.Frag} {a : Addr} {xs : List V} {g : TG} {tb : TS} {D : Ends} {σ : L2.St} {H : Hp} (Pv : Nat → L2.St → Hp → Prop) (h0 : Pv 0 σ H) (hl : ∀ i σ H, i ≤ xs.length → Pv i σ H → SqT K H a xs)
    (hs : ∀ i x σ H, xs[i]? = some x → Pv i σ H → ∀ N : L2.St → Hp → Prop, (∀ σ' H', Pv (i + 1) σ' H' → N σ' H') → g x σ H fun σ2 H2 => tb { D with nx := N, ct := N, bk := D.nx } σ2 H2) (hd : ∀ σ H, Pv xs.length σ H → D.nx σ H) :
    ForJ (Itt K a) g tb D σ H :=
  for_tup Pv h0 hl (fun i x σ H hi p => hs i x σ H hi p _ fun _ _ h => h) hd
theorem for_r {lo : Int} {n : Nat} {g : TG} {tb : TS} {D : Ends} {σ : L2.St} {H : Hp} (Pv : Nat → L2.St → Hp → Prop) (h0 : Pv 0 σ H)
    (hs : ∀ i σ H, i < n → Pv i σ H → ∀ N : L2.St → Hp → Prop, (∀ σ' H', Pv (i + 1) σ' H' → N σ' H') → g (.int (lo + i)) σ H fun σ2 H2 => tb { D with nx := N, ct := N, bk := D.nx } σ2 H2) (hd : ∀ σ H, Pv n σ H → D.nx σ H) :
    ForJ (Itr lo n) g tb D σ H :=
  for_range Pv h0 (fun i σ H hi p => hs i σ H hi p _ fun _ _ h => h) hd
theorem cxOf_K {CX : CXT} {P : Program} {w : World} {K : PySem.W.Frag} {mg : Str → Option Value} {base : Heap} {N : List Str} {qual : Str} {scope : Scope} {f : Addr} {cd : Value} {A : Around} {outer : List Env} {s : Shared} {H : Hp} {E : XK} : (cxOf CX P w K mg base N qual scope f cd A outer s H E).K = K := rfl
theorem spl {C A B : Prop} {c : Prop} [Decidable c] (h1 : c → A) (h2 : ¬ c → B) : if c then A else B := ite2 h1 h2
/-- a great number: below 2 ^ 400 in size -/
def Gr (i : Int) : Prop := i.natAbs < 2 ^ 400
theorem cmul {i j : Int} (hi : Gr i) (hj : Gr j) : CMulW i j := wide_mul hi hj (by decide) (by decide) (by decide)
theorem cdiv {i j : Int} (h : 0 < j) (hj : Gr j) : CDivW i j := wide_div h hj (by decide) (by decide)
theorem gr_of {i : Int} (h1 : -2582249878086908589655919172003011874329705792829223512830659356540647622016841194629645353280137831435903171972747493376 < i) (h2 : i < 2582249878086908589655919172003011874329705792829223512830659356540647622016841194629645353280137831435903171972747493376) : Gr i := by
  unfold Gr
  set_option exponentiation.threshold 500 in
  have e : (2 : Nat) ^ 400 = 2582249878086908589655919172003011874329705792829223512830659356540647622016841194629645353280137831435903171972747493376 := by decide
  rw [e]
  omega
end K72
set_option Elab.async false
set_option linter.all false
set_option maxRecDepth 100000
set_option maxHeartbeats 4000000
namespace K72
open PySem PySem.Spec PyProof.Rows L2
local macro_rules | `(tactic| walk_at "vc") => `(tactic| simp [tSeq, tAsg, tOp, tVar, tC, tIfS, tTest, tB, tAnd, tOr, tNot, tAndV, tOrV, tNotV, rI0, rI, rU, tUn, gName, tRet, tRetN, tNext, tNever, L2.start, rEq, rNe, scal_int, tCons, tNil, tCB, tCall, tIf, tChain, tDrop])
theorem scLeast : FnScope ["number", "divisor"] ["number"] (defScope sLeast) := ⟨rfl, rfl, rfl, by decide +kernel, rfl, by decide +kernel, by decide +kernel⟩
def spLeast : Sp := fun vs H Q _ => ∃ n : Int, vs = [.int n] ∧ 2 ≤ n ∧ n ≤ 1000000000 ∧ ∀ p, Least n p → Q (.int p) H
section
variable {P : Program} {w : World} {K : PySem.W.Frag} {mg : Str → Option Value} {base : Heap}
theorem ok_least {f : Addr} {fd : FuncData} (F : Fun K "least_divisor" "least_divisor" sLeast f fd) : FnOk P w K mg base CX0 1 f fd ["number"] spLeast := by
  refine F.ok scLeast (fun vs H Q E h => ?_) (fun cdv A outer s H vs Q E hr h => ?_)
  · obtain ⟨n, rfl, _⟩ := h
    rfl
  · obtain ⟨n, rfl, h2, hm, k⟩ := h
    refine ⟨_, pss_cons (ps_if (pt_cmpR op_eq (pe_op op_mod (pv 0) pe_int) pe_int (nomark _)) (pss_one (ps_ret pe_int)) pss_nil)
      (pss_cons (ps_set (i := 1) scLeast.nd rfl (Or.inl rfl) pe_int)
      (pss_cons (ps_while PassesOwn.never (pt_cmpR op_le (pe_op op_mulW (pv 1) (pv 1)) (pv 0) (nomark _))
        (pss_cons (ps_if (pt_cmpR op_eq (pe_op op_mod (pv 0) (pv 1)) pe_int (nomark _)) (pss_one (ps_ret (pv 1))) pss_nil)
        (pss_one (ps_set (i := 1) scLeast.nd rfl (Or.inl rfl) (pe_op op_add (pv 1) pe_int)))))
      (pss_one (ps_ret (pv 0))))), ?_⟩
    walk_at "vc"
    refine ite2 (fun c => k 2 ⟨by omega, by omega, fun m h1 h2 => by omega⟩) (fun c => ?_)
    refine while_st (fun (d : Int) σ H' => σ = [some (.int n), some (.int d)] ∧ H' = H ∧ 3 ≤ d ∧ d % 2 = 1 ∧ d ≤ n + 2 ∧ ∀ m, 2 ≤ m → m < d → ¬ m ∣ n) (fun d => (n - d + 2).toNat) 3 ⟨rfl, rfl, by omega, by omega, by omega, ?_⟩ ?_
    · intro m h1 h3 h4
      have : m = 2 := by omega
      subst this; omega
    · rintro d σ H' ⟨rfl, rfl, h3, ho, hd5, hd⟩
      walk_at "vc"
      have hdd : d * 3 ≤ d * d := Int.mul_le_mul_of_nonneg_left h3 (by omega)
      refine ⟨cmul (gr_of (by omega) (by omega)) (gr_of (by omega) (by omega)), ite2 (fun c2 => loop_in fun N hN => ?_) (fun c2 => ?_)⟩
      · walk_at "vc"
        refine ⟨by omega, ite2 (fun c3 => ?_) (fun c3 => ?_)⟩
        · exact k d ⟨by omega, Int.dvd_of_emod_eq_zero c3, hd⟩
        · refine hN (d + 2) _ _ ⟨rfl, rfl, by omega, by omega, by omega, fun m h4 h5 h6 => ?_⟩ (by omega)
          by_cases e1 : m < d
          · exact hd m h4 e1 h6
          · by_cases e2 : m = d
            · subst e2
              exact c3 (Int.emod_eq_zero_of_dvd h6)
            · have e3 : m % 2 = 0 := by omega
              exact c (Int.emod_eq_zero_of_dvd (Int.dvd_trans (Int.dvd_of_emod_eq_zero e3) h6))
      · refine k n ⟨h2, Int.dvd_refl n, fun m h4 h5 h6 => ?_⟩
        obtain ⟨q, hq⟩ := h6
        by_cases e1 : m < d
        · exact hd m h4 e1 ⟨q, hq⟩
        · have q2 : 2 ≤ q := by
            apply Decidable.byContradiction; intro e
            have : m * q ≤ m * 1 := Int.mul_le_mul_of_nonneg_left (by omega) (by omega)
            omega
          have qd : q < d := by
            apply Decidable.byContradiction; intro e
            have : d * d ≤ m * q := Int.mul_le_mul (by omega) (by omega) (by omega) (by omega)
            omega
          exact hd q q2 qd ⟨m, by rw [hq, Int.mul_comm]⟩
/-! ### check_bounds, where nothing is out of bounds, and where something is -/
theorem scCheckBounds : FnScope ["number", "low", "high"] ["number", "low", "high"] (defScope sCheckBounds) := ⟨rfl, rfl, rfl, by decide +kernel, rfl, by decide +kernel, by decide +kernel⟩
def spBounds0 : Sp := fun vs H Q _ => ∃ n lo hi : Int, vs = [.int n, .int lo, .int hi] ∧ lo ≤ n ∧ n ≤ hi ∧ Q .non H
theorem ok_bounds0 {f : Addr} {fd : FuncData} (F : Fun K "check_bounds" "check_bounds" sCheckBounds f fd) : FnOk P w K mg base CX0 1 f fd ["number", "low", "high"] spBounds0 := by
  refine F.ok scCheckBounds (fun vs H Q E h => ?_) (fun cdv A outer s H vs Q E hr h => ?_)
  · obtain ⟨n, lo, hi, rfl, _⟩ := h
    rfl
  · obtain ⟨n, lo, hi, rfl, h1, h2, k⟩ := h
    refine ⟨_, pss_one (ps_if (pt_not (pt_chain op_le op_le (pv 1) (pv 0) (pv 2))) (pss_one ps_never) pss_nil), ?_⟩
    walk_at "vc"
    simp [h1, h2, k]
def spBounds (C : Addr) : Sp := fun vs H Q E => ∃ n lo hi : Int, vs = [.int n, .int lo, .int hi] ∧ (lo ≤ n → n ≤ hi → Q .non H) ∧ (¬ (lo ≤ n ∧ n ≤ hi) → ∀ d, H d = none → E (.ref C) (some d) (upd H d (.xd [(("number" : Str), .int n)])))
theorem ok_bounds {f C fI cda cc : Addr} {fd : FuncData} (F : Fun K "check_bounds" "check_bounds" sCheckBounds f fd) (T : NumTxt P K mg C fI cda cc) : FnOk P w K mg base (L2.CX P w) 3 f fd ["number", "low", "high"] (spBounds C) := by
  refine F.okX scCheckBounds (fun vs H Q E h => ?_) (fun cdv A outer s H vs Q E hr h => ?_)
  · obtain ⟨n, lo, hi, rfl, _⟩ := h
    rfl
  · obtain ⟨n, lo, hi, rfl, k1, k2⟩ := h
    refine ⟨_, pss_one (ps_if (pt_not (pt_chain op_le op_le (pv 1) (pv 0) (pv 2))) (pss_one (ps_raiseNum rfl T hr (takes_of rfl rfl rfl rfl) (pa_cons (pv 0) pa_nil))) pss_nil), ?_⟩
    simp [tSeq, tAsg, tOp, tVar, tC, tIfS, tTest, tB, tAnd, tOr, tNot, rI0, rI, gName, tRet, tNext, L2.start, tCons, tNil, tChain, tRaiseNum, tMkNum]
    by_cases c1 : lo ≤ n
    · by_cases c2 : n ≤ hi
      · simp [c1, c2, k1]
      · simp [c1, c2]
        exact fun d hd => k2 (by omega) d hd
    · simp [c1]
      exact fun d hd => k2 (by omega) d hd
/-! ### exact_root -/
theorem scExactRoot : FnScope ["number", "root"] ["number"] (defScope sExactRoot) := ⟨rfl, rfl, rfl, by decide +kernel, rfl, by decide +kernel, by decide +kernel⟩
def spRoot : Sp := fun vs H Q _ => ∃ n : Int, vs = [.int n] ∧ n < 2 ^ 64 ∧ (∀ r, 0 ≤ r → r * r = n → Q (.int r) H) ∧ ((∀ r : Int, r * r ≠ n) → Q .non H)
theorem ok_root {f : Addr} {fd : FuncData} (F : Fun K "exact_root" "exact_root" sExactRoot f fd) (mI : mg "isqrt" = some (.builtin "math.isqrt")) : FnOk P w K mg base CX0 1 f fd ["number"] spRoot := by
  refine F.ok scExactRoot (fun vs H Q E h => ?_) (fun cdv A outer s H vs Q E hr h => ?_)
  · obtain ⟨n, rfl, _⟩ := h
    rfl
  · obtain ⟨n, rfl, hb, k1, k2⟩ := h
    refine ⟨_, pss_cons (ps_if (pt_cmpR op_lt (pv 0) pe_int (nomark _)) (pss_one (ps_ret pe_non)) pss_nil)
      (pss_cons (ps_set (i := 1) scExactRoot.nd rfl (Or.inl rfl) (pe_callBfun cr_isqrt rfl mI (pa_cons (pv 0) pa_nil)))
      (pss_one (ps_ret (pe_ifExp (pt_cmpR op_eq (pe_op op_mulW (pv 1) (pv 1)) (pv 0) (nomark _)) (pv 1) pe_non)))), ?_⟩
    walk_at "vc"
    simp [rIsqrt]
    refine ite2 (fun c => ?_) (fun c => ?_)
    · refine k2 fun r e => ?_
      have : 0 ≤ r * r := by
        by_cases h : 0 ≤ r
        · exact Int.mul_nonneg h h
        · rw [← Int.neg_mul_neg]
          exact Int.mul_nonneg (by omega) (by omega)
      omega
    · have hb' : n < 18446744073709551616 := hb
      obtain ⟨s1, s2⟩ := PySem.Float64.isqrt_spec n.toNat
      generalize Float64.isqrt n.toNat = r at s1 s2
      have e1 : ((r : Nat) : Int) * r ≤ n := by
        have : ((r * r : Nat) : Int) ≤ (n.toNat : Int) := Int.ofNat_le.mpr s1
        rw [Int.natCast_mul] at this
        omega
      have e2 : n < ((r : Nat) + 1 : Int) * (r + 1) := by
        have : (n.toNat : Int) < (((r + 1) * (r + 1) : Nat) : Int) := Int.ofNat_lt.mpr s2
        rw [Int.natCast_mul] at this
        simp at this
        omega
      have rb : (r : Int) < 4294967296 := by
        apply Decidable.byContradiction; intro q
        have : (4294967296 : Int) * 4294967296 ≤ (r : Int) * r := Int.mul_le_mul (by omega) (by omega) (by omega) (by omega)
        omega
      refine ⟨by omega, by omega, cmul (gr_of (by omega) (by omega)) (gr_of (by omega) (by omega)), ite2 (fun c2 => k1 r (by omega) c2) (fun c2 => k2 fun q hq => ?_)⟩
      have key : ∀ q : Int, 0 ≤ q → q * q ≠ n := by
        intro q h0 hq
        have q1 : q < r + 1 := by
          apply Decidable.byContradiction; intro h
          have : ((r : Int) + 1) * (r + 1) ≤ q * q := Int.mul_le_mul (by omega) (by omega) (by omega) (by omega)
          omega
        have q2 : (r : Int) ≤ q := by
          apply Decidable.byContradiction; intro h
          have : (q + 1) * (q + 1) ≤ (r : Int) * r := Int.mul_le_mul (by omega) (by omega) (by omega) (by omega)
          have : (q + 1) * (q + 1) = q * q + 2 * q + 1 := by grind
          omega
        have : q = r := by omega
        subst this
        exact c2 hq
      by_cases h0 : 0 ≤ q
      · exact key q h0 hq
      · exact key (-q) (by omega) (by rw [Int.neg_mul_neg]; exact hq)
end
end K72
set_option Elab.async false
set_option linter.all false
set_option maxRecDepth 100000
set_option maxHeartbeats 4000000
namespace K72
open PySem PySem.Spec PyProof.Rows L2
open C8 (Cal Mak pe_c pe_mk pe_gc)
local macro_rules | `(tactic| walk_at "vc") => `(tactic| simp [tSeq, tAsg, tOp, tVar, tC, tIfS, tTest, tB, tAnd, tOr, tNot, tAndV, tOrV, tNotV, rI0, rI, rU, tUn, gName, tRet, tRetN, tNext, tNever, L2.start, rEq, rNe, scal_int, tCons, tNil, tCB, tCall, tIf, tChain, tDrop, tLst, tTup, gTup, gCons, gNil, tBM, rAppend])
theorem len_of_pow {k : Nat} {r n : Int} (h : 2 ^ k * r ≤ n) (hr : 1 ≤ r) (hn : n ≤ 1000000000) : k ≤ 63 := by
  apply Decidable.byContradiction; intro q
  have key : ∀ j : Nat, (18446744073709551616 : Int) ≤ 2 ^ (64 + j) := by
    intro j
    induction j with
    | zero => decide
    | succ j ih => rw [← Nat.add_assoc, Int.pow_succ]; omega
  obtain ⟨j, rfl⟩ : ∃ j, k = 64 + j := ⟨k - 64, by omega⟩
  have h1 := key j
  have h2 : (2 : Int) ^ (64 + j) * 1 ≤ 2 ^ (64 + j) * r := Int.mul_le_mul_of_nonneg_left hr (by omega)
  omega
theorem small_line {n : Nat} (h : n ≤ 100000) : n ≤ sizeLine := Nat.le_trans h (by decide)
theorem small_line' {n : Nat} (h : n < 100000) : n < sizeLine := Nat.lt_of_lt_of_le h (by decide)
/-- the list's entries are tuples of these pairs -/
def PairsAt (H : Hp) : List V → List (Int × Int) → Prop
  | [], [] => True
  | x :: xs, p :: ps => (∃ t, x = .ref t ∧ H t = some (.tup [.int p.1, .int p.2])) ∧ PairsAt H xs ps
  | _, _ => False
theorem PairsAt.len {H : Hp} : ∀ {xs : List V} {ps : List (Int × Int)}, PairsAt H xs ps → xs.length = ps.length
  | [], [], _ => rfl
  | x :: xs, p :: ps, h => by simp [h.2.len]
  | [], _ :: _, h => h.elim
  | _ :: _, [], h => h.elim
theorem PairsAt.app {H : Hp} {t : Addr} {a e : Int} (ht : H t = some (.tup [.int a, .int e])) : ∀ {xs : List V} {ps : List (Int × Int)}, PairsAt H xs ps → PairsAt H (xs ++ [.ref t]) (ps ++ [(a, e)])
  | [], [], _ => ⟨⟨t, rfl, ht⟩, trivial⟩
  | x :: xs, p :: ps, h => ⟨h.1, h.2.app ht⟩
  | [], _ :: _, h => h.elim
  | _ :: _, [], h => h.elim
theorem PairsAt.mono {H H' : Hp} (k : ∀ t a e, H t = some (.tup [.int a, .int e]) → H' t = some (.tup [.int a, .int e])) : ∀ {xs : List V} {ps : List (Int × Int)}, PairsAt H xs ps → PairsAt H' xs ps
  | [], [], _ => trivial
  | x :: xs, p :: ps, h => ⟨by obtain ⟨t, e, ht⟩ := h.1; exact ⟨t, e, k _ _ _ ht⟩, h.2.mono k⟩
  | [], _ :: _, h => h.elim
  | _ :: _, [], h => h.elim
theorem PairsAt.get {H : Hp} : ∀ {xs : List V} {ps : List (Int × Int)} {i : Nat} {x : V}, PairsAt H xs ps → xs[i]? = some x → ∃ t p, x = .ref t ∧ ps[i]? = some p ∧ H t = some (.tup [.int p.1, .int p.2])
  | [], [], _, _, _, e => by simp at e
  | x :: xs, p :: ps, 0, y, h, e => by
    obtain ⟨t, e2, ht⟩ := h.1
    simp at e
    subst e
    exact ⟨t, p, e2, rfl, ht⟩
  | x :: xs, p :: ps, i + 1, y, h, e => h.2.get (i := i) (by simpa using e)
  | [], _ :: _, _, _, h, _ => h.elim
  | _ :: _, [], _, _, h, _ => h.elim
section
variable {P : Program} {w : World} {K : PySem.W.Frag} {mg : Str → Option Value} {base : Heap}
/-! ### prime_powers -/
theorem scPrimePowers : FnScope ["number", "powers", "rest", "prime", "exponent"] ["number"] (defScope sPrimePowers) := ⟨rfl, rfl, rfl, by decide +kernel, rfl, by decide +kernel, by decide +kernel⟩
def spPowers : Sp := fun vs H Q _ => ∃ n : Int, vs = [.int n] ∧ 1 ≤ n ∧ n ≤ 1000000000 ∧ ∀ p H' xs ps, Same H H' → H p = none → H' p = some (.lst xs) → PairsAt H' xs ps → PP n ps → ps.length ≤ 1000 → Q (.ref p) H'
abbrev InvPow (n : Int) (p : Addr) (H : Hp) (z : List V × List (Int × Int) × Int) (σ : L2.St) (H' : Hp) : Prop :=
  ∃ o3 o4, σ = [some (.int n), some (.ref p), some (.int z.2.2), o3, o4] ∧ Same H H' ∧ H' p = some (.lst z.1) ∧ PairsAt H' z.1 z.2.1 ∧ 1 ≤ z.2.2 ∧ z.2.2 ≤ n ∧ z.2.1.length ≤ 64 ∧ 2 ^ z.2.1.length * z.2.2 ≤ n ∧ ∀ t, PP z.2.2 t → PP n (z.2.1 ++ t)
theorem ok_powers {f : Addr} {fd : FuncData} (F : Fun K "prime_powers" "prime_powers" sPrimePowers f fd) (G1 : Cal P w K mg base 1 "check_bounds" spBounds0 []) (G2 : Cal P w K mg base 1 "least_divisor" spLeast [])
    (mM : ∃ u, mg "MOST_NUMBER" = some u ∧ RelV (.int 1000000000) u) : FnOk P w K mg base CX0 2 f fd ["number"] spPowers := by
  refine F.ok scPrimePowers (fun vs H Q E h => ?_) (fun cdv A outer s H vs Q E hr h => ?_)
  · obtain ⟨n, rfl, _⟩ := h
    rfl
  · obtain ⟨n, rfl, h1, h2, k⟩ := h
    refine ⟨_, pss_cons (ps_expr (pe_c G1 hr (by decide) rfl (pa_cons (pv 0) (pa_cons pe_int (pa_cons (pe_gc rfl mM) pa_nil)))))
      (pss_cons (ps_set (i := 1) scPrimePowers.nd rfl (Or.inl rfl) (pe_lst pa_nil))
      (pss_cons (ps_set (i := 2) scPrimePowers.nd rfl (Or.inl rfl) (pv 0))
      (pss_cons (ps_while PassesOwn.never (pt_cmpR op_gt (pv 2) pe_int (nomark _))
        (pss_cons (ps_set (i := 3) scPrimePowers.nd rfl (Or.inl rfl) (pe_c G2 hr (by decide) rfl (pa_cons (pv 2) pa_nil)))
        (pss_cons (ps_set (i := 4) scPrimePowers.nd rfl (Or.inl rfl) pe_int)
        (pss_cons (ps_while PassesOwn.never (pt_cmpR op_eq (pe_op op_mod (pv 2) (pv 3)) pe_int (nomark _))
          (pss_cons (ps_set (i := 2) scPrimePowers.nd rfl (Or.inl rfl) (pe_op op_fdivW (pv 2) (pv 3)))
          (pss_one (ps_set (i := 4) scPrimePowers.nd rfl (Or.inl rfl) (pe_op op_add (pv 4) pe_int)))))
        (pss_one (ps_expr (pe_bm PySem.F.plainAttrs_list PySem.F.slot_list_append PySem.F.type_list_append mt_append (pv 1) (pa_cons (pe_tup (pa_cons (pv 3) (pa_cons (pv 4) pa_nil))) pa_nil))))))))
      (pss_one (ps_ret (pv 1)))))), ?_⟩
    walk_at "vc"
    simp [spBounds0]
    refine ⟨_, _, _, ⟨rfl, rfl, rfl⟩, h1, h2, fun p np => ?_⟩
    refine while_st (InvPow n p H) (fun z => z.2.2.toNat) ([], [], n) ⟨none, none, rfl, fun b o e => by rw [upd_ne (ne_of_none e np)]; exact e, upd_same, trivial, h1, Int.le_refl _, by simp, by simp, fun t h => h⟩ ?_
    rintro ⟨xs, ps, rest⟩ σ H' ⟨o3, o4, rfl, sm, hp, pa, r1, rn, hl, h2p, hpp⟩
    simp only at hp pa r1 rn hl h2p hpp
    walk_at "vc"
    refine ite2 (fun c => loop_in fun N hN => ?_) (fun c => ?_)
    · walk_at "vc"
      simp [spLeast]
      refine ⟨by omega, by omega, fun q hq => ?_⟩
      have q2 := hq.1
      refine while_st (fun (z : Int × Nat) σ H'' => σ = [some (.int n), some (.ref p), some (.int z.1), some (.int q), some (.int (z.2 : Int))] ∧ H'' = H' ∧ 1 ≤ z.1 ∧ rest = q ^ z.2 * z.1) (fun z => z.1.toNat) (rest, 0) ⟨rfl, rfl, r1, by simp⟩ ?_
      rintro ⟨r, e⟩ σ H'' ⟨rfl, rfl, s1, s2⟩
      simp only at s1 s2
      walk_at "vc"
      refine ⟨by omega, ite2 (fun c => loop_in fun N2 hN2 => ?_) (fun c => ?_)⟩
      · walk_at "vc"
        have hd : q ∣ r := Int.dvd_of_emod_eq_zero c
        have e1 : q * (r / q) = r := Int.mul_ediv_cancel' hd
        have r2 : 1 ≤ r / q := by
          apply Decidable.byContradiction; intro z
          have : q * (r / q) ≤ q * 0 := Int.mul_le_mul_of_nonneg_left (by omega) (by omega)
          omega
        have r3 : 2 * (r / q) ≤ q * (r / q) := Int.mul_le_mul_of_nonneg_right q2 (by omega)
        have hqr := Int.le_of_dvd (by omega) hd
        have hrb : r ≤ rest := by
          have := pow_pos' q2 e
          have : 1 * r ≤ q ^ e * r := Int.mul_le_mul_of_nonneg_right this (by omega)
          omega
        refine ⟨cdiv (by omega) (gr_of (by omega) (by omega)), hN2 (r / q, e + 1) _ _ ⟨by simp, rfl, r2, ?_⟩ (by simp only; omega)⟩
        simp only
        rw [s2, Int.pow_succ, Int.mul_assoc, e1]
      · have hnd : ¬ q ∣ r := fun z => c (Int.emod_eq_zero_of_dvd z)
        have e1 : 1 ≤ e := by
          apply Decidable.byContradiction; intro z
          have : e = 0 := by omega
          subst this
          rw [Int.pow_zero, Int.one_mul] at s2
          rw [s2] at hq
          exact hnd hq.2.1
        have hpw := pow_ge' q2 e1
        have hrb : 2 * r ≤ q ^ e * r := Int.mul_le_mul_of_nonneg_right (by omega) (by omega)
        have hn2p : 2 ^ (ps.length + 1) * r ≤ n := by
          have g0 := pow_pos' (p := 2) (by omega) ps.length
          have g1 : 2 ^ ps.length * (2 * r) ≤ 2 ^ ps.length * rest := Int.mul_le_mul_of_nonneg_left (by omega) (by omega)
          have g2 : (2 : Int) ^ (ps.length + 1) * r = 2 ^ ps.length * (2 * r) := by rw [Int.pow_succ, Int.mul_assoc]
          omega
        refine ⟨Or.inl ⟨rfl, _, Or.inl (Or.inl hp)⟩, small_line (by decide), fun t nt => ?_⟩
        have npt : p ≠ t := ne_of_none hp nt
        refine ⟨xs, by rw [upd_ne npt]; exact hp, small_line' (by have := pa.len; omega), ?_⟩
        refine hN (xs ++ [.ref t], ps ++ [(q, (e : Int))], r) _ _ ⟨some (.int q), some (.int (e : Int)), rfl, ?_, upd_same, ?_, s1, by simp only; omega, ?_, ?_, ?_⟩ (by simp only; omega)
        · intro b o h
          rw [upd_ne (ne_of_none h np), upd_ne (ne_of_none (sm b o h) nt)]
          exact sm b o h
        · have k1 : PairsAt (upd (upd H'' t (.tup [.int q, .int (e : Int)])) p (.lst (xs ++ [.ref t]))) xs ps := pa.mono fun t' a b h => by
            have : t' ≠ p := ne_of h hp (by intro z; cases z)
            rw [upd_ne this, upd_ne (ne_of_none h nt)]
            exact h
          refine k1.app ?_
          rw [upd_ne npt.symm, upd_same]
        · simp only [List.length_append, List.length_cons, List.length_nil]
          have := len_of_pow hn2p s1 h2
          omega
        · simp only [List.length_append, List.length_cons, List.length_nil]
          exact hn2p
        · intro t' ht
          rw [List.append_assoc]
          exact hpp _ (PP.more hq s2 hnd s1 e1 ht)
    · have : rest = 1 := by omega
      subst this
      have := hpp [] PP.one
      rw [List.append_nil] at this
      exact k p H' xs ps sm np hp pa this (by omega)
end
end K72
set_option Elab.async false
set_option linter.all false
set_option maxRecDepth 100000
set_option maxHeartbeats 4000000
namespace K72
open PySem PySem.Spec PyProof.Rows L2
open C8 (Cal Mak pe_c pe_mk pe_gc)
local macro_rules | `(tactic| walk_at "vc") => `(tactic| simp [tSeq, tAsg, tOp, tVar, tC, tIfS, tTest, tB, tAnd, tOr, tNot, tAndV, tOrV, tNotV, rI0, rI, rU, tUn, gName, tRet, tRetN, tNext, tNever, L2.start, rEq, rNe, scal_int, tCons, tNil, tCB, tCall, tIf, tChain, tDrop, tLst, tTup, gTup, gCons, gNil, tBM, rAppend, tFor_l, tFor_t, tFor_r1, tFor_r2, cxOf_K, and_assoc])
section
variable {P : Program} {w : World} {K : PySem.W.Frag} {mg : Str → Option Value} {base : Heap}
/-! ### square_free -/
theorem scSquareFree : FnScope ["number", "product", "prime", "exponent"] ["number"] (defScope sSquareFree) := ⟨rfl, rfl, rfl, by decide +kernel, rfl, by decide +kernel, by decide +kernel⟩
def spSqf : Sp := fun vs H Q _ => ∃ n : Int, vs = [.int n] ∧ n ≠ 0 ∧ -1000000 ≤ n ∧ n ≤ 1000000 ∧ ∀ r H', Same H H' → (r = n ↔ Sqf n) → Q (.int r) H'
theorem oddp_app {ps : List (Int × Int)} {x : Int × Int} : oddp (ps ++ [x]) = oddp ps * (if x.2 % 2 = 1 then x.1 else 1) := by
  induction ps with
  | nil => simp [oddp]
  | cons y t ih =>
    rw [List.cons_append]
    obtain ⟨a, b⟩ := y
    rw [oddp_cons, oddp_cons, ih, Int.mul_assoc]
theorem oddp_take {n : Int} {ps : List (Int × Int)} (h : PP n ps) : ∀ i, 1 ≤ oddp (ps.take i) ∧ oddp (ps.take i) ≤ n ∧ ∀ p ∈ ps, 1 ≤ p.1 ∧ p.1 ≤ n := by
  induction h with
  | one => intro i; simp [oddp]
  | more hl hn hd hr hk h ih =>
    rename_i n p r k t
    have p2 := hl.1
    have pk := pow_ge' p2 hk
    have g3 : p * r ≤ p ^ k * r := Int.mul_le_mul_of_nonneg_right pk (by omega)
    have g4 : p * 1 ≤ p * r := Int.mul_le_mul_of_nonneg_left hr (by omega)
    have g5 : 1 * r ≤ p * r := Int.mul_le_mul_of_nonneg_right (by omega) (by omega)
    intro i
    refine ⟨?_, ?_, fun x hx => ?_⟩
    · cases i with
      | zero => simp [oddp]
      | succ i =>
        obtain ⟨i1, i2, _⟩ := ih i
        rw [List.take_succ_cons, oddp_cons]
        have hb : (1 : Int) ≤ (if (k : Int) % 2 = 1 then p else 1) := by split <;> omega
        have : 1 * 1 ≤ (if (k : Int) % 2 = 1 then p else 1) * oddp (t.take i) := Int.mul_le_mul hb i1 (by omega) (by omega)
        omega
    · cases i with
      | zero => simp [oddp]; omega
      | succ i =>
        obtain ⟨i1, i2, _⟩ := ih i
        rw [List.take_succ_cons, oddp_cons]
        have hb : (if (k : Int) % 2 = 1 then p else 1) ≤ p := by split <;> omega
        have : (if (k : Int) % 2 = 1 then p else 1) * oddp (t.take i) ≤ p * r := Int.mul_le_mul hb i2 (by omega) (by omega)
        omega
    · rcases List.mem_cons.mp hx with rfl | hx
      · simp only; omega
      · have := (ih 0).2.2 x hx
        omega
def sgn (n : Int) : Int := if 0 < n then 1 else -1
theorem ok_sqf {f : Addr} {fd : FuncData} (F : Fun K "square_free" "square_free" sSquareFree f fd) (G1 : Cal P w K mg base 1 "check_bounds" spBounds0 []) (G2 : Cal P w K mg base 2 "prime_powers" spPowers [])
    (mM : ∃ u, mg "MOST_NUMBER" = some u ∧ RelV (.int 1000000000) u) (mA : mg "abs" = none) : FnOk P w K mg base CX0 3 f fd ["number"] spSqf := by
  refine F.ok scSquareFree (fun vs H Q E h => ?_) (fun cdv A outer s H vs Q E hr h => ?_)
  · obtain ⟨n, rfl, _⟩ := h
    rfl
  · obtain ⟨n, rfl, h0, h1, h2, k⟩ := h
    refine ⟨_, pss_cons (ps_expr (pe_c G1 hr (by decide) rfl (pa_cons (pv 0) (pa_cons (pe_un un_neg (pe_gc rfl mM)) (pa_cons (pe_gc rfl mM) pa_nil)))))
      (pss_cons (ps_if (pt_cmpR op_eq (pv 0) pe_int (nomark _)) (pss_one ps_never) pss_nil)
      (pss_cons (ps_set (i := 1) scSquareFree.nd rfl (Or.inl rfl) (pe_ifExp (pt_cmpR op_gt (pv 0) pe_int (nomark _)) pe_int (pe_un un_neg pe_int)))
      (pss_cons (ps_for PassesOwn.never rfl (pi_list (pe_c G2 hr (by decide) rfl (pa_cons (pe_callB call_abs (by rfl) mA (by decide +kernel) (pa_cons (pv 0) pa_nil)) pa_nil))) (pg_tup (by rfl) (pgs_cons (pg_name (i := 2) scSquareFree.nd rfl (Or.inl rfl)) (pgs_cons (pg_name (i := 3) scSquareFree.nd rfl (Or.inl rfl)) pgs_nil)))
        (pss_one (ps_if (pt_cmpR op_eq (pe_op op_mod (pv 3) pe_int) pe_int (nomark _))
          (pss_one (ps_set (i := 1) scSquareFree.nd rfl (Or.inl rfl) (pe_op op_mulW (pv 1) (pv 2))))
          pss_nil)))
      (pss_one (ps_ret (pv 1)))))), ?_⟩
    walk_at "vc"
    simp [spBounds0, h0, and_assoc]
    refine ⟨by omega, by omega, ?_⟩
    refine ite2 (fun c => ?_) (fun c => ?_)
    all_goals
      refine ⟨_, rfl, by split <;> omega, by split <;> omega, fun p H1 xs ps sm np hp pa hpp hl => ⟨p, rfl, ⟨xs, SqL.of hp⟩, ?_⟩⟩
      have hm := oddp_take hpp
      have hb : (if n < 0 then -n else n) ≤ 1000000 := by split <;> omega
      refine for_l (xs := xs) (fun i σ H' => ∃ o2 o3, σ = [some (.int n), some (.int (sgn n * oddp (ps.take i))), o2, o3] ∧ H' = H1) ⟨none, none, by simp [sgn, c, oddp], rfl⟩ (fun i σ H' _ ⟨_, _, _, e⟩ => by rw [e]; exact SqL.of hp) ?_ ?_
      · rintro i x σ H' hi ⟨o2, o3, rfl, rfl⟩ N hN
        obtain ⟨t, q, rfl, hq, ht⟩ := pa.get hi
        walk_at "vc"
        have hq' := List.mem_of_getElem? hq
        have st : ps.take (i + 1) = ps.take i ++ [q] := by rw [List.take_add_one, hq]; rfl
        have hmi := hm i
        have hmq := hmi.2.2 q hq'
        refine ⟨[.int q.1, .int q.2], SqT.of ht, rfl, ?_⟩
        simp [and_assoc]
        refine ite2 (fun c2 => ?_) (fun c2 => ?_)
        · have hg : -1000000 ≤ sgn n * oddp (ps.take i) ∧ sgn n * oddp (ps.take i) ≤ 1000000 := by unfold sgn; split <;> omega
          refine ⟨cmul (gr_of (by omega) (by omega)) (gr_of (by omega) (by omega)), hN _ _ ⟨some (.int q.1), some (.int q.2), ?_, rfl⟩⟩
          rw [st, oddp_app, if_pos c2, Int.mul_assoc]
        · refine hN _ _ ⟨some (.int q.1), some (.int q.2), ?_, rfl⟩
          rw [st, oddp_app, if_neg c2, Int.mul_one]
      · rintro σ H' ⟨o2, o3, rfl, rfl⟩
        walk_at "vc"
        rw [pa.len, List.take_length]
        refine k _ _ sm ?_
        have hs := oddp_spec hpp
        have e : Sqf n ↔ Sqf (if n < 0 then -n else n) := by
          split
          · exact sqf_neg.symm
          · exact Iff.rfl
        rw [e, ← hs.2.2]
        unfold sgn
        split <;> split <;> omega
/-! ### two_squares -/
theorem scTwoSquares : FnScope ["number", "pairs", "u", "v"] ["number"] (defScope sTwoSquares) := ⟨rfl, rfl, rfl, by decide +kernel, rfl, by decide +kernel, by decide +kernel⟩
def spTwoSq : Sp := fun vs H Q _ => ∃ n : Int, vs = [.int n] ∧ 0 ≤ n ∧ n ≤ 1000000 ∧ ∀ p H' xs ps, Same H H' → H' p = some (.lst xs) → PairsAt H' xs ps → (∀ z ∈ ps, 0 ≤ z.1 ∧ 0 ≤ z.2 ∧ z.1 * z.1 + z.2 * z.2 = n) → (Two n → ps ≠ []) → Q (.ref p) H'
abbrev InvTwo (n : Int) (p : Addr) (H : Hp) (z : List V × List (Int × Int) × Int) (σ : L2.St) (H' : Hp) : Prop :=
  ∃ o3, σ = [some (.int n), some (.ref p), some (.int z.2.2), o3] ∧ Same H H' ∧ H' p = some (.lst z.1) ∧ PairsAt H' z.1 z.2.1 ∧ 0 ≤ z.2.2 ∧ z.2.2 ≤ 1001 ∧ (z.2.1.length : Int) ≤ z.2.2 ∧ (∀ z' ∈ z.2.1, 0 ≤ z'.1 ∧ 0 ≤ z'.2 ∧ z'.1 * z'.1 + z'.2 * z'.2 = n) ∧ ∀ a b, 0 ≤ a → a < z.2.2 → 0 ≤ b → a * a + b * b = n → z.2.1 ≠ []
theorem ok_twoSq {f : Addr} {fd : FuncData} (F : Fun K "two_squares" "two_squares" sTwoSquares f fd) (G1 : Cal P w K mg base 1 "check_bounds" spBounds0 []) (G2 : Cal P w K mg base 1 "exact_root" spRoot [])
    (mM : ∃ u, mg "MOST_PLAIN" = some u ∧ RelV (.int 1000000) u) : FnOk P w K mg base CX0 2 f fd ["number"] spTwoSq := by
  refine F.ok scTwoSquares (fun vs H Q E h => ?_) (fun cdv A outer s H vs Q E hr h => ?_)
  · obtain ⟨n, rfl, _⟩ := h
    rfl
  · obtain ⟨n, rfl, h0, h1, k⟩ := h
    refine ⟨_, pss_cons (ps_expr (pe_c G1 hr (by decide) rfl (pa_cons (pv 0) (pa_cons pe_int (pa_cons (pe_gc rfl mM) pa_nil)))))
      (pss_cons (ps_set (i := 1) scTwoSquares.nd rfl (Or.inl rfl) (pe_lst pa_nil))
      (pss_cons (ps_set (i := 2) scTwoSquares.nd rfl (Or.inl rfl) pe_int)
      (pss_cons (ps_while PassesOwn.never (pt_cmpR op_le (pe_op op_mulW (pe_op op_mulW pe_int (pv 2)) (pv 2)) (pv 0) (nomark _))
        (pss_cons (ps_set (i := 3) scTwoSquares.nd rfl (Or.inl rfl) (pe_c G2 hr (by decide) rfl (pa_cons (pe_op op_sub (pv 0) (pe_op op_mulW (pv 2) (pv 2))) pa_nil)))
        (pss_cons (ps_if (pt_cmpR op_notN (pv 3) pe_non (nomark _))
          (pss_one (ps_expr (pe_bm PySem.F.plainAttrs_list PySem.F.slot_list_append PySem.F.type_list_append mt_append (pv 1) (pa_cons (pe_tup (pa_cons (pv 2) (pa_cons (pv 3) pa_nil))) pa_nil))))
          pss_nil)
        (pss_one (ps_set (i := 2) scTwoSquares.nd rfl (Or.inl rfl) (pe_op op_add (pv 2) pe_int))))))
      (pss_one (ps_ret (pv 1)))))), ?_⟩
    walk_at "vc"
    simp [spBounds0, and_assoc]
    refine ⟨by omega, by omega, fun p np => ?_⟩
    refine while_st (InvTwo n p H) (fun z => (1001 - z.2.2).toNat) ([], [], 0) ⟨none, rfl, fun b o e => by rw [upd_ne (ne_of_none e np)]; exact e, upd_same, trivial, Int.le_refl _, by simp, by simp, by simp, by intro a b h1 h2; simp only at h2; omega⟩ ?_
    rintro ⟨xs, ps, u⟩ σ H' ⟨o3, rfl, sm, hp, pa, u0, u1, hl, hall, hno⟩
    simp only at hp pa u0 u1 hl hall hno
    walk_at "vc"
    have hu3 : 2 * u * u = 2 * (u * u) := Int.mul_assoc 2 u u
    refine ⟨cmul (gr_of (by omega) (by omega)) (gr_of (by omega) (by omega)), cmul (gr_of (by omega) (by omega)) (gr_of (by omega) (by omega)), ite2 (fun c => loop_in fun N hN => ?_) (fun c => ?_)⟩
    · walk_at "vc"
      have uu : 0 ≤ u * u := Int.mul_nonneg u0 u0
      have ub : u ≤ 1000 := by
        apply Decidable.byContradiction; intro z
        have : 1001 * 1001 ≤ u * u := Int.mul_le_mul (by omega) (by omega) (by omega) (by omega)
        omega
      refine ⟨cmul (gr_of (by omega) (by omega)) (gr_of (by omega) (by omega)), ?_⟩
      refine ⟨n - u * u, rfl, by omega, ?_, ?_⟩
      · -- a root v
        intro v v0 hv
        simp
        refine ⟨Or.inl ⟨rfl, _, Or.inl (Or.inl hp)⟩, small_line (by decide), fun t nt => ?_⟩
        have npt : p ≠ t := ne_of_none hp nt
        refine ⟨xs, by rw [upd_ne npt]; exact hp, small_line' (by have := pa.len; omega), ?_⟩
        refine hN (xs ++ [.ref t], ps ++ [(u, v)], u + 1) _ _ ⟨some (.int v), rfl, ?_, upd_same, ?_, by simp only; omega, by simp only; omega, ?_, ?_, ?_⟩ (by simp only; omega)
        · intro b o h
          rw [upd_ne (ne_of_none h np), upd_ne (ne_of_none (sm b o h) nt)]
          exact sm b o h
        · have k1 : PairsAt (upd (upd H' t (.tup [.int u, .int v])) p (.lst (xs ++ [.ref t]))) xs ps := pa.mono fun t' a b h => by
            have : t' ≠ p := ne_of h hp (by intro z; cases z)
            rw [upd_ne this, upd_ne (ne_of_none h nt)]
            exact h
          refine k1.app ?_
          rw [upd_ne npt.symm, upd_same]
        · simp only [List.length_append, List.length_cons, List.length_nil]
          omega
        · intro z hz
          rcases List.mem_append.mp hz with hz | hz
          · exact hall z hz
          · rw [List.mem_singleton.mp hz]
            exact ⟨u0, v0, by simp only; omega⟩
        · intro a b _ _ _ _ e
          simp at e
      · -- none
        intro hno2
        simp
        refine hN (xs, ps, u + 1) _ _ ⟨some .non, rfl, sm, hp, pa, by simp only; omega, by simp only; omega, by simp only; omega, hall, ?_⟩ (by simp only; omega)
        intro a b ha hau hb e
        simp only at hau
        by_cases hau' : a < u
        · exact hno a b ha hau' hb e
        · have : a = u := by omega
          subst this
          exact absurd (by omega) (hno2 b)
    · refine k p H' xs ps sm hp pa hall ?_
      rintro ⟨a, b, e⟩
      -- both of them not negative, the lesser one first
      have key : ∀ a b : Int, 0 ≤ a → 0 ≤ b → a ≤ b → a * a + b * b = n → ps ≠ [] := by
        intro a b ha hb hab e
        refine hno a b ha ?_ hb e
        apply Decidable.byContradiction; intro z
        have h1 : u * u ≤ a * a := Int.mul_le_mul (by omega) (by omega) (by omega) (by omega)
        have h2 : a * a ≤ b * b := Int.mul_le_mul hab hab ha hb
        omega
      have sgnl : ∀ a : Int, ∃ a', 0 ≤ a' ∧ a' * a' = a * a := by
        intro a
        by_cases h : 0 ≤ a
        · exact ⟨a, h, rfl⟩
        · exact ⟨-a, by omega, Int.neg_mul_neg a a⟩
      obtain ⟨a', a0, ea⟩ := sgnl a
      obtain ⟨b', b0, eb⟩ := sgnl b
      by_cases hab : a' ≤ b'
      · exact key a' b' a0 b0 hab (by omega)
      · exact key b' a' b0 a0 (by omega) (by omega)
/-! ### bar_of -/
theorem scBarOf : FnScope ["d", "prime", "_"] ["d"] (defScope sBarOf) := ⟨rfl, rfl, rfl, by decide +kernel, rfl, by decide +kernel, by decide +kernel⟩
def barV : Option Int → V
  | none => .non
  | some p => .int p
def spBar : Sp := fun vs H Q _ => ∃ n : Int, vs = [.int n] ∧ n ≠ 0 ∧ n ≤ 1000000 ∧ (n < 0 → Q (.int (-1)) H) ∧ (0 < n → ∀ b H', Same H H' → BarOf n b → Q (barV b) H')
theorem ok_bar {f : Addr} {fd : FuncData} (F : Fun K "bar_of" "bar_of" sBarOf f fd) (G2 : Cal P w K mg base 2 "prime_powers" spPowers []) : FnOk P w K mg base CX0 3 f fd ["d"] spBar := by
  refine F.ok scBarOf (fun vs H Q E h => ?_) (fun cdv A outer s H vs Q E hr h => ?_)
  · obtain ⟨n, rfl, _⟩ := h
    rfl
  · obtain ⟨n, rfl, h0, h1, k1, k2⟩ := h
    refine ⟨_, pss_cons (ps_if (pt_cmpR op_lt (pv 0) pe_int (nomark _)) (pss_one (ps_ret (pe_un un_neg pe_int))) pss_nil)
      (pss_cons (ps_for PassesOwn.never rfl (pi_list (pe_c G2 hr (by decide) rfl (pa_cons (pv 0) pa_nil))) (pg_tup (by rfl) (pgs_cons (pg_name (i := 1) scBarOf.nd rfl (Or.inl rfl)) (pgs_cons (pg_name (i := 2) scBarOf.nd rfl (Or.inl rfl)) pgs_nil)))
        (pss_one (ps_if (pt_cmpR op_eq (pe_op op_mod (pv 1) pe_int) pe_int (nomark _))
          (pss_one (ps_ret (pv 1)))
          pss_nil)))
      (pss_one (ps_ret pe_non))), ?_⟩
    walk_at "vc"
    refine ite2 (fun c => k1 c) (fun c => ?_)
    refine ⟨n, rfl, by omega, by omega, fun p H1 xs ps sm np hp pa hpp hl => ⟨p, rfl, ⟨xs, SqL.of hp⟩, ?_⟩⟩
    have hb := bar_spec hpp
    refine for_l (xs := xs) (fun i σ H' => ∃ o1 o2, σ = [some (.int n), o1, o2] ∧ H' = H1 ∧ ∀ x ∈ ps.take i, x.1 % 4 ≠ 3) ⟨none, none, rfl, rfl, by simp⟩ (fun i σ H' _ ⟨_, _, _, e, _⟩ => by rw [e]; exact SqL.of hp) ?_ ?_
    · rintro i x σ H' hi ⟨o1, o2, rfl, rfl, hno⟩ N hN
      obtain ⟨t, q, rfl, hq, ht⟩ := pa.get hi
      walk_at "vc"
      refine ⟨[.int q.1, .int q.2], SqT.of ht, rfl, ?_⟩
      simp [and_assoc]
      have st : ps.take (i + 1) = ps.take i ++ [q] := by rw [List.take_add_one, hq]; rfl
      refine ite2 (fun c2 => ?_) (fun c2 => ?_)
      · have e : barL ps = some q.1 := by
          unfold barL
          have e1 : ps = ps.take i ++ q :: ps.drop (i + 1) := by
            rw [List.append_cons, ← st, List.take_append_drop]
          rw [e1, List.find?_append]
          have e2 : (ps.take i).find? (fun x => decide (x.1 % 4 = 3)) = none := List.find?_eq_none.mpr fun x hx => by simpa using hno x hx
          rw [e2, List.find?_cons]
          simp [c2]
        rw [e] at hb
        exact k2 (by omega) (some q.1) _ sm hb
      · refine hN _ _ ⟨some (.int q.1), some (.int q.2), rfl, rfl, fun x hx => ?_⟩
        rw [st] at hx
        rcases List.mem_append.mp hx with hx | hx
        · exact hno x hx
        · rw [List.mem_singleton.mp hx]
          exact c2
    · rintro σ H' ⟨o1, o2, rfl, rfl, hno⟩
      walk_at "vc"
      rw [pa.len, List.take_length] at hno
      have e : barL ps = none := by
        unfold barL
        have e2 : ps.find? (fun x => decide (x.1 % 4 = 3)) = none := List.find?_eq_none.mpr fun x hx => by simpa using hno x hx
        rw [e2]
        rfl
      rw [e] at hb
      exact k2 (by omega) none _ sm hb
end
end K72
set_option Elab.async false
set_option linter.all false
set_option maxRecDepth 100000
set_option maxHeartbeats 4000000
namespace K72
open PySem PySem.Spec PyProof.Rows L2
open C8 (Cal Mak pe_c pe_mk pe_gc)
local macro_rules | `(tactic| walk_at "vc") => `(tactic| simp [tSeq, tAsg, tOp, tVar, tC, tIfS, tTest, tB, tAnd, tOr, tNot, tAndV, tOrV, tNotV, rI0, rI, rU, tUn, gName, tRet, tRetN, tNext, tNever, L2.start, rEq, rNe, scal_int, tCons, tNil, tCB, tCall, tIf, tChain, tDrop, tLst, tTup, gTup, gCons, gNil, tBM, rAppend, tFor_l, tFor_t, tFor_r1, tFor_r2, cxOf_K, and_assoc, tThen, kTup, tSl, rSlL, rSlA, tFld, sFld, tMake, tNoPart, tPart, rIxL, rIxT])
section
variable {P : Program} {w : World} {K : PySem.W.Frag} {mg : Str → Option Value} {base : Heap}
/-! ### trimmed: of the empty tuple, of a list with its last entry not 0 -/
theorem scTrimmed : FnScope ["row", "end"] ["row"] (defScope sTrimmed) := ⟨rfl, rfl, rfl, by decide +kernel, rfl, by decide +kernel, by decide +kernel⟩
def spTrim0 (K : PySem.W.Frag) : Sp := fun vs H Q _ => ∃ t : Addr, vs = [.ref t] ∧ SqT K H t [] ∧ Q (.ref t) H
theorem ok_trim0 {f : Addr} {fd : FuncData} (F : Fun K "trimmed" "trimmed" sTrimmed f fd) (mL : mg "len" = none) (mT : mg "tuple" = none) : FnOk P w K mg base CX0 1 f fd ["row"] (spTrim0 K) := by
  refine F.ok scTrimmed (fun vs H Q E h => ?_) (fun cdv A outer s H vs Q E hr h => ?_)
  · obtain ⟨t, rfl, _⟩ := h
    rfl
  · obtain ⟨t, rfl, ht, k⟩ := h
    refine ⟨_, pss_cons (ps_set (i := 1) scTrimmed.nd rfl (Or.inl rfl) (pe_callB call_len_seq (by rfl) mL PySem.boot_len (pa_cons (pv 0) pa_nil)))
      (pss_cons (ps_while PassesOwn.never (PW.pt (pw_and (pt_cmpR op_gt (pv 1) pe_int (nomark _)) (pw_and1 (pt_cmpR op_eq (pe_ix ix_list (pv 0) (pe_op op_sub (pv 1) pe_int) (fun _ _ => rfl)) pe_int (nomark _)))))
        (pss_one (ps_set (i := 1) scTrimmed.nd rfl (Or.inl rfl) (pe_op op_sub (pv 1) pe_int))))
      (pss_one (ps_ret (pe_tupleOf (by rfl) mT (pe_slice sl_tupA (pv 0) po_none (po_some (pv 1))))))), ?_⟩
    walk_at "vc"
    refine ⟨[], Or.inr ht, ?_⟩
    refine while_st (fun (_ : Unit) σ H' => σ = [some (.ref t), some (.int 0)] ∧ H' = H) (fun _ => 0) () ⟨rfl, rfl⟩ ?_
    rintro _ σ H' ⟨rfl, rfl⟩
    walk_at "vc"
    exact ⟨[], ht, fun _ _ => .inr ⟨⟨[], ht⟩, k⟩, fun z _ _ => absurd rfl (z rfl)⟩
def spTrimL (K : PySem.W.Frag) : Sp := fun vs H Q _ => ∃ (l : Addr) (cs : List Int) (c : Int), vs = [.ref l] ∧ SqL K H l ((cs ++ [c]).map V.int) ∧ c ≠ 0 ∧ cs.length ≤ 1000 ∧
  ∀ t H', Same H H' → H t = none → H' t = some (.tup ((cs ++ [c]).map V.int)) → Q (.ref t) H'
theorem ok_trimL {f : Addr} {fd : FuncData} (F : Fun K "trimmed" "trimmed" sTrimmed f fd) (mL : mg "len" = none) (mT : mg "tuple" = none) : FnOk P w K mg base CX0 1 f fd ["row"] (spTrimL K) := by
  refine F.ok scTrimmed (fun vs H Q E h => ?_) (fun cdv A outer s H vs Q E hr h => ?_)
  · obtain ⟨l, cs, c, rfl, _⟩ := h
    rfl
  · obtain ⟨l, cs, c, rfl, hs, hc, hl, k⟩ := h
    refine ⟨_, pss_cons (ps_set (i := 1) scTrimmed.nd rfl (Or.inl rfl) (pe_callB call_len_seq (by rfl) mL PySem.boot_len (pa_cons (pv 0) pa_nil)))
      (pss_cons (ps_while PassesOwn.never (PW.pt (pw_and (pt_cmpR op_gt (pv 1) pe_int (nomark _)) (pw_and1 (pt_cmpR op_eq (pe_ix ix_list (pv 0) (pe_op op_sub (pv 1) pe_int) (fun _ _ => rfl)) pe_int (nomark _)))))
        (pss_one (ps_set (i := 1) scTrimmed.nd rfl (Or.inl rfl) (pe_op op_sub (pv 1) pe_int))))
      (pss_one (ps_ret (pe_tupleOf (by rfl) mT (pe_slice sl_list (pv 0) po_none (po_some (pv 1))))))), ?_⟩
    have el : ((cs ++ [c]).map V.int).length = cs.length + 1 := by simp
    have eix : atI ((cs ++ [c]).map V.int) (((cs ++ [c]).map V.int).length - 1 : Int) = some (.int c) := by
      rw [el]
      have : ((cs.length + 1 : Nat) : Int) - 1 = (cs.length : Int) := by omega
      rw [this]
      refine atI_nat ?_
      simp
    have ecut : cutV ((cs ++ [c]).map V.int) none (some (((cs ++ [c]).map V.int).length : Int)) = (cs ++ [c]).map V.int := by
      unfold cutV
      rw [HT.sIx_none, HT.sIx_nat, Nat.min_self, List.drop_zero, Nat.sub_zero, List.take_length]
    generalize hxs : (cs ++ [c]).map V.int = xs at hs el eix ecut k
    walk_at "vc"
    refine ⟨xs, Or.inl hs, ?_⟩
    refine while_st (fun (_ : Unit) σ H' => σ = [some (.ref l), some (.int (xs.length : Int))] ∧ H' = H) (fun _ => 0) () ⟨rfl, rfl⟩ ?_
    rintro _ σ H' ⟨rfl, rfl⟩
    walk_at "vc"
    refine ite2 (fun _ => ⟨xs, hs, _, eix, ?_⟩) (fun z => ?_)
    · simp [scal_int, hc]
      refine ⟨xs, hs, fun p np => .inl ⟨xs, ?_, fun q nq => ?_⟩⟩
      · rw [ecut]
        exact SqL.of upd_same
      · have nqp : q ≠ p := fun z => by rw [z, upd_same] at nq; cases nq
        have nq' : H' q = none := by rw [upd_ne nqp] at nq; exact nq
        refine k q _ (fun b o e => ?_) nq' upd_same
        rw [upd_ne (ne_of_none e nq'), upd_ne (ne_of_none e np)]
        exact e
    · omega
/-! ### check_size, where nothing is out of bounds -/
theorem scCheckSize : FnScope ["rows", "low", "high"] ["rows", "low", "high"] (defScope sCheckSize) := ⟨rfl, rfl, rfl, by decide +kernel, rfl, by decide +kernel, by decide +kernel⟩
def spSize (K : PySem.W.Frag) : Sp := fun vs H Q _ => ∃ (p : Addr) (xs : List V) (lo hi : Int), vs = [.ref p, .int lo, .int hi] ∧ (SqL K H p xs ∨ SqT K H p xs) ∧ lo ≤ (xs.length : Int) ∧ (xs.length : Int) ≤ hi ∧ Q .non H
theorem ok_size {f : Addr} {fd : FuncData} (F : Fun K "check_size" "check_size" sCheckSize f fd) (mL : mg "len" = none) : FnOk P w K mg base CX0 1 f fd ["rows", "low", "high"] (spSize K) := by
  refine F.ok scCheckSize (fun vs H Q E h => ?_) (fun cdv A outer s H vs Q E hr h => ?_)
  · obtain ⟨p, xs, lo, hi, rfl, _⟩ := h
    rfl
  · obtain ⟨p, xs, lo, hi, rfl, hs, h1, h2, k⟩ := h
    refine ⟨_, pss_one (ps_if (pt_not (pt_chain op_le op_le (pv 1) (pe_callB call_len_seq (by rfl) mL PySem.boot_len (pa_cons (pv 0) pa_nil)) (pv 2))) (pss_one ps_never) pss_nil), ?_⟩
    walk_at "vc"
    refine ⟨xs, hs, ?_⟩
    simp [h1, h2, k]
/-! ### Poly.__init__ of the empty tuple -/
theorem scPolyInit : FnScope ["self", "coeffs", "number", "row"] ["self", "coeffs"] (defScope sPolyInit) := ⟨rfl, rfl, rfl, by decide +kernel, rfl, by decide +kernel, by decide +kernel⟩
structure PolyTxt (K : PySem.W.Frag) (C : Addr) : Prop where
  cl : Cls K C
  nC : NoAttr K C "coeffs"
  nD : NoAttr K C "degree"
  nL : NoAttr K C "lead"
def spInit (K : PySem.W.Frag) (C : Addr) : Sp := fun vs H Q _ => ∃ (p dx t : Addr), vs = [.ref p, .ref t] ∧ H p = some (.ins C dx []) ∧ SqT K H t [] ∧ ∀ H', (∀ b o, b ≠ p → H b = some o → H' b = some o) → (∃ fs, H' p = some (.ins C dx fs) ∧ fs.length ≤ 3) → Q .non H'
theorem sqT_ins {H : Hp} {t p C dx : Addr} {xs : List V} {fs : List (Str × V)} {o : HO} (h : SqT K H t xs) (hp : H p = some (.ins C dx fs)) : SqT K (upd H p o) t xs := by
  rcases h with (h | ⟨u, h⟩) | h
  · exact .inl (.inl (by rw [upd_ne (ne_of h hp (by intro z; cases z))]; exact h))
  · exact .inl (.inr ⟨u, by rw [upd_ne (ne_of h hp (by intro z; cases z))]; exact h⟩)
  · exact .inr h
theorem putF_length (f : Str) (v : V) : ∀ fs : List (Str × V), (putF f v fs).length ≤ fs.length + 1
  | [] => by simp [putF]
  | (g, y) :: fs => by
    show (if g = f then _ else _ : List (Str × V)).length ≤ _
    split
    · simp
    · have := putF_length f v fs
      simp only [List.length_cons]
      omega
theorem ok_init {f C : Addr} {fd : FuncData} (F : Fun K "__init__" "Poly.__init__" sPolyInit f fd) (T : PolyTxt K C) (G1 : Cal P w K mg base 1 "check_size" (spSize K) []) (G2 : Cal P w K mg base 1 "check_bounds" spBounds0 []) (G3 : Cal P w K mg base 1 "trimmed" (spTrim0 K) [])
    (mC : ∃ u, mg "MOST_COEFFS" = some u ∧ RelV (.int 61) u) (mL : mg "len" = none) : FnOk P w K mg base CX0 2 f fd ["self", "coeffs"] (spInit K C) := by
  refine F.ok scPolyInit (fun vs H Q E h => ?_) (fun cdv A outer s H vs Q E hr h => ?_)
  · obtain ⟨p, dx, t, rfl, _⟩ := h
    rfl
  · obtain ⟨p, dx, t, rfl, hp, ht, k⟩ := h
    refine ⟨_, pss_cons (ps_expr (pe_c G1 hr (by decide) rfl (pa_cons (pv 1) (pa_cons pe_int (pa_cons (pe_gc rfl mC) pa_nil)))))
      (pss_cons (ps_for PassesOwn.never rfl (pi_tup (pv 1)) (pg_name (i := 2) scPolyInit.nd rfl (Or.inl rfl)) pss_never)
      (pss_cons (ps_set (i := 3) scPolyInit.nd rfl (Or.inl rfl) (pe_c G3 hr (by decide) rfl (pa_cons (pv 1) pa_nil)))
      (pss_cons (ps_fld (pv 0) (pv 3) rfl)
      (pss_cons (ps_fld (pv 0) (pe_op op_sub (pe_callB call_len_seq (by rfl) mL PySem.boot_len (pa_cons (pv 3) pa_nil)) pe_int) rfl)
      (pss_one (ps_fld (pv 0) (pe_ifExp (pt_truth (pv 3) (by intro _; rfl)) (pe_ix ix_list (pv 3) (pe_un un_neg pe_int) (fun _ _ => rfl)) pe_int) rfl)))))), ?_⟩
    walk_at "vc"
    refine ⟨t, [], 0, 61, rfl, Or.inr ht, by simp, by simp, ⟨[], ht⟩, ?_⟩
    refine for_t (xs := []) (fun i σ H' => σ = [some (.ref p), some (.ref t), none, none] ∧ H' = H) ⟨rfl, rfl⟩ (fun i σ H' _ ⟨_, e⟩ => by rw [e]; exact ht) (fun i x σ H' hi => by simp at hi) ?_
    rintro σ H' ⟨rfl, rfl⟩
    walk_at "vc"
    refine ⟨t, rfl, ht, ?_⟩
    have t1 := sqT_ins (o := HO.ins C dx (putF "coeffs" (.ref t) [])) ht hp
    simp
    refine ⟨C, dx, [], hp, T.cl, T.nC, by simp, [], Or.inr t1, ?_⟩
    simp [rI0, tC]
    refine ⟨C, dx, _, upd_same, T.cl, T.nD, (by have := putF_length "coeffs" (V.ref t) []; simp only [List.length_nil] at this; omega), ?_⟩
    have l1 := putF_length "coeffs" (V.ref t) []
    have l2 := putF_length "degree" (V.int (-1)) (putF "coeffs" (V.ref t) [])
    have l3 := putF_length "lead" (V.int 0) (putF "degree" (V.int (-1)) (putF "coeffs" (V.ref t) []))
    simp only [List.length_nil] at l1
    refine Or.inl ⟨Or.inr (Or.inl ⟨[], sqT_ins t1 upd_same, rfl⟩), C, dx, _, upd_same, T.cl, T.nL, by omega, k _ (fun b o hb e => ?_) ⟨_, upd_same, by omega⟩⟩
    rw [upd_ne hb, upd_ne hb, upd_ne hb]
    exact e
/-! ### poly_of a list that is not trimmed -/
/-- at q an instance of Poly with these coefficients -/
def PolyAt (C : Addr) (H : Hp) (q : Addr) (cs : List Int) : Prop := ∃ dx fs ct, H q = some (.ins C dx fs) ∧ fs.lookup ("coeffs" : Str) = some (V.ref ct) ∧ H ct = some (.tup (cs.map V.int))
theorem scPolyOf : FnScope ["coeffs", "row", "made"] ["coeffs"] (defScope sPolyOf) := ⟨rfl, rfl, rfl, by decide +kernel, rfl, by decide +kernel, by decide +kernel⟩
def spPolyOf (K : PySem.W.Frag) (C : Addr) : Sp := fun vs H Q _ => ∃ (l : Addr) (cs : List Int) (c : Int), vs = [.ref l] ∧ SqL K H l ((cs ++ [c]).map V.int) ∧ c ≠ 0 ∧ cs.length ≤ 1000 ∧
  ∀ q H', Same H H' → PolyAt C H' q (cs ++ [c]) → Q (.ref q) H'
theorem ok_polyOf {f C : Addr} {fd : FuncData} (F : Fun K "poly_of" "poly_of" sPolyOf f fd) (T : PolyTxt K C) (G1 : Cal P w K mg base 1 "trimmed" (spTrimL K) []) (GP : Mak P w K mg base 2 "Poly" C (spInit K C) [])
    (mL : mg "len" = none) : FnOk P w K mg base CX0 4 f fd ["coeffs"] (spPolyOf K C) := by
  refine F.ok scPolyOf (fun vs H Q E h => ?_) (fun cdv A outer s H vs Q E hr h => ?_)
  · obtain ⟨l, cs, c, rfl, _⟩ := h
    rfl
  · obtain ⟨l, cs, c, rfl, hl, hc, hn, k⟩ := h
    refine ⟨_, pss_cons (ps_set (i := 1) scPolyOf.nd rfl (Or.inl rfl) (pe_c G1 hr (by decide) rfl (pa_cons (pv 0) pa_nil)))
      (pss_cons (ps_set (i := 2) scPolyOf.nd rfl (Or.inl rfl) (pe_mk GP hr (by decide) rfl (pa_cons (pe_tup pa_nil) pa_nil)))
      (pss_cons (ps_fld (pv 2) (pv 1) rfl)
      (pss_cons (ps_fld (pv 2) (pe_op op_sub (pe_callB call_len_seq (by rfl) mL PySem.boot_len (pa_cons (pv 1) pa_nil)) pe_int) rfl)
      (pss_cons (ps_fld (pv 2) (pe_ifExp (pt_truth (pv 1) (by intro _; rfl)) (pe_ix ix_tup (pv 1) (pe_un un_neg pe_int) (fun _ _ => rfl)) pe_int) rfl)
      (pss_one (ps_ret (pv 2))))))), ?_⟩
    walk_at "vc"
    refine ⟨l, cs, c, rfl, hl, hc, hn, fun t H1 s1 nt ht => ?_⟩
    simp
    intro q nq x dx nx ndx nex
    have nxq : x ≠ q := fun z => by rw [z, upd_same] at nx; cases nx
    have ndq : dx ≠ q := fun z => by rw [z, upd_same] at ndx; cases ndx
    have nx1 : H1 x = none := by rw [upd_ne nxq] at nx; exact nx
    have nd1 : H1 dx = none := by rw [upd_ne ndq] at ndx; exact ndx
    refine ⟨x, dx, q, rfl, upd_same, SqT.of (by rw [upd_ne nxq.symm, upd_ne ndq.symm, upd_same]), fun H2 k2 ⟨fs, h2, hl2⟩ => ⟨rfl, C, dx, fs, h2, T.cl, T.nC, by omega, ?_⟩⟩
    have hxt : t ≠ x := fun z => by rw [z] at ht; rw [ht] at nx1; cases nx1
    have hdt : t ≠ dx := fun z => by rw [z] at ht; rw [ht] at nd1; cases nd1
    have hqt : t ≠ q := fun z => by rw [z] at ht; rw [ht] at nq; cases nq
    have ht2 : H2 t = some (.tup ((cs ++ [c]).map V.int)) := k2 t _ hxt (by rw [upd_ne hxt, upd_ne hdt, upd_ne hqt]; exact ht)
    have key : ∀ (H : Hp) (o : HO), H t = some (.tup ((cs ++ [c]).map V.int)) → (upd H x o) t = some (.tup ((cs ++ [c]).map V.int)) := fun H o h => by rw [upd_ne hxt]; exact h
    have l1 := putF_length "coeffs" (V.ref t) fs
    have l2 := putF_length "degree" (V.int (((cs ++ [c]).map V.int).length - 1 : Int)) (putF "coeffs" (V.ref t) fs)
    refine ⟨(cs ++ [c]).map V.int, Or.inr (SqT.of (key _ _ ht2)), C, dx, _, upd_same, T.cl, T.nD, by omega, Or.inr ⟨Or.inr (Or.inl ⟨_, SqT.of (key _ _ (key _ _ ht2)), by simp⟩), (cs ++ [c]).map V.int, SqT.of (key _ _ (key _ _ ht2)), .int c, ?_, C, dx, _, upd_same, T.cl, T.nL, by omega, ?_⟩⟩
    · unfold atI ixN
      simp
      rw [if_pos (by omega), show (-1 + ((cs.length : Int) + 1)).toNat = cs.length by omega]
      simp
    · refine k x _ (fun b o e => ?_) ⟨dx, _, t, upd_same, ?_, key _ _ (key _ _ (key _ _ ht2))⟩
      · have e1 := s1 b o e
        have hb : b ≠ x := ne_of_none e1 nx1
        rw [upd_ne hb, upd_ne hb, upd_ne hb]
        exact k2 b o hb (by rw [upd_ne hb, upd_ne (ne_of_none e1 nd1), upd_ne (ne_of_none e1 nq)]; exact e1)
      · rw [lookup_putF, if_neg (by decide +kernel), lookup_putF, if_neg (by decide +kernel), lookup_putF, if_pos rfl]
/-! ### cyclic_poly with r = 1 -/
theorem scCyclicPoly : FnScope ["u", "v", "r", "size"] ["u", "v", "r"] (defScope sCyclicPoly) := ⟨rfl, rfl, rfl, by decide +kernel, rfl, by decide +kernel, by decide +kernel⟩
def cyc (v d : Int) : List Int := [v * v * d, 0, -2 * d, 0, 1]
def spCyc (C : Addr) : Sp := fun vs H Q _ => ∃ u v : Int, vs = [.int u, .int v, .int 1] ∧ 0 ≤ u ∧ u ≤ 1000 ∧ 0 ≤ v ∧ v ≤ 1000 ∧ ∀ q H', Same H H' → PolyAt C H' q (cyc v (u * u + v * v)) → Q (.ref q) H'
theorem ok_cyc {f C : Addr} {fd : FuncData} (F : Fun K "cyclic_poly" "cyclic_poly" sCyclicPoly f fd) (G1 : Cal P w K mg base 4 "poly_of" (spPolyOf K C) []) : FnOk P w K mg base CX0 5 f fd ["u", "v", "r"] (spCyc C) := by
  refine F.ok scCyclicPoly (fun vs H Q E h => ?_) (fun cdv A outer s H vs Q E hr h => ?_)
  · obtain ⟨u, v, rfl, _⟩ := h
    rfl
  · obtain ⟨u, v, rfl, u0, u1, v0, v1, k⟩ := h
    refine ⟨_, pss_cons (ps_set (i := 3) scCyclicPoly.nd rfl (Or.inl rfl) (pe_op op_add (pe_op op_mulW (pv 0) (pv 0)) (pe_op op_mulW (pv 1) (pv 1))))
      (pss_one (ps_ret (pe_c G1 hr (by decide) rfl (pa_cons (pe_lst (pa_cons (pe_op op_mulW (pe_op op_mulW (pe_op op_mulW (pe_op op_mulW (pv 2) (pv 2)) (pv 1)) (pv 1)) (pv 3)) (pa_cons pe_int (pa_cons (pe_op op_mulW (pe_op op_mulW (pe_un un_neg pe_int) (pv 2)) (pv 3)) (pa_cons pe_int (pa_cons pe_int pa_nil)))))) pa_nil)))), ?_⟩
    have uu : 0 ≤ u * u := Int.mul_nonneg u0 u0
    have vv : 0 ≤ v * v := Int.mul_nonneg v0 v0
    have uu1 : u * u ≤ 1000 * 1000 := Int.mul_le_mul u1 u1 u0 (by omega)
    have vv1 : v * v ≤ 1000 * 1000 := Int.mul_le_mul v1 v1 v0 (by omega)
    have gs : ∀ i : Int, -10000000 ≤ i → i ≤ 10000000 → Gr i := fun i h1 h2 => gr_of (by omega) (by omega)
    walk_at "vc"
    refine ⟨cmul (gs _ (by omega) (by omega)) (gs _ (by omega) (by omega)), cmul (gs _ (by omega) (by omega)) (gs _ (by omega) (by omega)), cmul (gs _ (by omega) (by omega)) (gs _ (by omega) (by omega)), cmul (gs _ (by omega) (by omega)) (gs _ (by omega) (by omega)),
      cmul (gs _ (by omega) (by omega)) (gs _ (by omega) (by omega)), cmul (gs _ (by omega) (by omega)) (gs _ (by omega) (by omega)), cmul (gs _ (by omega) (by omega)) (gs _ (by omega) (by omega)), cmul (gs _ (by omega) (by omega)) (gs _ (by omega) (by omega)), small_line (by decide), fun p np => ?_⟩
    refine ⟨p, [v * v * (u * u + v * v), 0, -2 * (u * u + v * v), 0], 1, rfl, SqL.of ?_, by decide, (by show 4 ≤ 1000; decide), fun q H' s1 hq => k q H' (fun b o e => s1 b o (by rw [upd_ne (ne_of_none e np)]; exact e)) hq⟩
    rw [upd_same]
    simp
end
end K72
set_option Elab.async false
set_option linter.all false
set_option maxRecDepth 100000
set_option maxHeartbeats 4000000
namespace K72
open PySem PySem.Spec PyProof.Rows L2
open C8 (Cal Mak pe_c pe_mk pe_gc)
local macro_rules | `(tactic| walk_at "vc") => `(tactic| simp [tSeq, tAsg, tOp, tVar, tC, tIfS, tTest, tB, tAnd, tOr, tNot, tAndV, tOrV, tNotV, rI0, rI, rU, tUn, gName, tRet, tRetN, tNext, tNever, L2.start, rEq, rNe, scal_int, tCons, tNil, tCB, tCall, tIf, tChain, tDrop, tLst, tTup, gTup, gCons, gNil, tBM, rAppend, tFor_l, tFor_t, tFor_r1, tFor_r2, cxOf_K, and_assoc, tThen, kTup, tSl, rSlL, rSlA, tFld, sFld, tMake, tNoPart, tPart, rIxL, rIxT, tCallS, tRaiseNum, tMkNum])
section
variable {X : Cx} {C : Addr} {bmB : List Value} {B newId initId : String}
/-- C() -/
theorem pmk_own0 {x : Str} {p pos : Pos} (F : ExcBaseFacts B newId initId bmB) (q : PySem.W.excIn X.K C bmB newId = true) (gC : X.mg x = some (.ref C)) (kC : PySem.W.keepIn X.K (.ref C) = true) (r : Raises X (.ref C)) (hg : Gl X x)
    (hdb : (x == ("__debug__" : Str)) = false := by decide) : PMk X (.Call (.Name x p) [] [] pos) (fun _ H Q => Q (.ref C) none H) := by
  intro pins s σ H Q I h
  refine wpAny_Call_Name_kw (ld_glob I hg gC ?_ hdb)
  refine PySem.W.callWith_K0 I.kIn kC ?_
  show wpAny _ _ (call (.ref C) []) _ _ _
  obtain ⟨bm, N, nm, qn, bs, hdct, sn, sub, ab, col, dd, k0, k1, k2, k3, k5, mN, hC, hN, hni, T⟩ := exc_obj I.kIn q
  refine wpAny_call_exc_subT F T hC hN hni (fun h' e hm => ?_) (Nat.zero_le _)
  exact mk_of I hm r h (I.hok.gone hm.new)
end
/-- a def that may raise, by its name -/
structure CalX (P : Program) (w : World) (K : PySem.W.Frag) (mg : Str → Option Value) (base : Heap) (k : Nat) (x : Str) (sp : Sp) : Prop where
  ex : ∃ (f : Addr) (fd : FuncData) (ps : List Str), FnOk P w K mg base (L2.CX P w) k f fd ps sp ∧ mg x = some (.ref f) ∧ PySem.W.keepIn K (.ref f) = true ∧ Binds K fd ps []
section
variable {X : Cx} {k j : Nat} {sp : Sp} {x : Str} {e : Expr} {es : List Expr} {p pos : Pos} {t : TA} {W : WX}
theorem pe_cX (c : CalX X.prog X.w X.K X.mg X.base k x sp) (hr : Room j X.A) (hk : k ≤ j) (hg : Gl X x) (tk : Takes X W) (ha : PA X (e :: es) t)
    (hdb : (x == ("__debug__" : Str)) = false := by decide) (he : starEach (e :: es) X.env = (false, eval e X.env) :: starEach es X.env := by rfl) (hpl : (backTo pos (starEach es X.env)).any (·.1) = false := by rfl) :
    PE X (.Call (.Name x p) (e :: es) [] pos) (tCallS sp (WE W) t) := by
  obtain ⟨f, fd, ps, F, hm, kp, b⟩ := c.ex
  exact pe_callS F (hr.mono hk) hg hm kp b (fun σ => passAt tk σ) ha hdb he hpl
theorem pe_cX0 (c : CalX X.prog X.w X.K X.mg X.base k x sp) (hr : Room j X.A) (hk : k ≤ j) (hg : Gl X x) (ha : PA X (e :: es) t)
    (hdb : (x == ("__debug__" : Str)) = false := by decide) (he : starEach (e :: es) X.env = (false, eval e X.env) :: starEach es X.env := by rfl) (hpl : (backTo pos (starEach es X.env)).any (·.1) = false := by rfl) :
    PE X (.Call (.Name x p) (e :: es) [] pos) (tCall sp [] L2.E0 t) := by
  obtain ⟨f, fd, ps, F, hm, kp, b⟩ := c.ex
  exact pe_call F (hr.mono hk) hg hm kp b .nil passL ha hdb he hpl
end
/-- what is told of the class ZeroError, at C -/
structure ZeroTxt (K : PySem.W.Frag) (mg : Str → Option Value) (C : Addr) : Prop where
  gC : mg "ZeroError" = some (.ref C)
  ex : PySem.W.excIn K C [.type "ValueError", .type "Exception", .type "BaseException", .type "object"] "ValueError.__new__" = true
  kC : PySem.W.keepIn K (.ref C) = true
  sC : PySem.W.subIn K (.ref C) (.type "BaseException") = some true
  tC : PySem.W.typeIn K (.ref C) = some (.type "type")
section
variable {P : Program} {w : World} {K : PySem.W.Frag} {mg : Str → Option Value} {base : Heap}
theorem scCyclicAbove : FnScope ["d", "bar", "u", "v"] ["d"] (defScope sCyclicAbove) := ⟨rfl, rfl, rfl, by decide +kernel, rfl, by decide +kernel, by decide +kernel⟩
def numX (d : Int) : HO := .xd [(("number" : Str), .int d)]
def spAbove (CN CZ CP : Addr) : Sp := fun vs H Q E => ∃ d : Int, vs = [.int d] ∧
  ((d < -1000000 ∨ 1000000 < d) → ∀ x, H x = none → E (.ref CN) (some x) (upd H x (numX d))) ∧
  (d = 0 → E (.ref CZ) none H) ∧
  (-1000000 ≤ d → d ≤ 1000000 → d ≠ 0 → (d = 1 ∨ ¬ Sqf d) → ∀ x H', Same H H' → H' x = none → E (.ref CN) (some x) (upd H' x (numX d))) ∧
  (-1000000 ≤ d → d ≤ 1000000 → d ≠ 1 → Sqf d →
    (d < 0 → ∀ t H', Same H H' → H' t = some (.tup [.str "barred", .int (-1)]) → Q (.ref t) H') ∧
    (0 < d → ∀ p t H', Same H H' → BarOf d (some p) → H' t = some (.tup [.str "barred", .int p]) → Q (.ref t) H') ∧
    (0 < d → ∀ u v q t H', Same H H' → BarOf d none → u * u + v * v = d → 0 ≤ u → 0 ≤ v → PolyAt CP H' q (cyc v d) → H' t = some (.tup [.str "field", .ref q]) → Q (.ref t) H'))
theorem ok_above {f CN fI cda cc CZ CP : Addr} {fd : FuncData} (F : Fun K "cyclic_above" "cyclic_above" sCyclicAbove f fd) (T : NumTxt P K mg CN fI cda cc) (Z : ZeroTxt K mg CZ)
    (GB : CalX P w K mg base 3 "check_bounds" (spBounds CN)) (G1 : Cal P w K mg base 3 "square_free" spSqf []) (G2 : Cal P w K mg base 3 "bar_of" spBar []) (G3 : Cal P w K mg base 2 "two_squares" spTwoSq []) (G4 : Cal P w K mg base 5 "cyclic_poly" (spCyc CP) [])
    (mM : ∃ u, mg "MOST_PARAMETER" = some u ∧ RelV (.int 1000000) u) : FnOk P w K mg base (L2.CX P w) 6 f fd ["d"] (spAbove CN CZ CP) := by
  refine F.okX scCyclicAbove (fun vs H Q E h => ?_) (fun cdv A outer s H vs Q E hr h => ?_)
  · obtain ⟨d, rfl, _⟩ := h
    rfl
  · obtain ⟨d, rfl, kA, kZ, kN, kG⟩ := h
    refine ⟨_, pss_cons (ps_expr (pe_cX GB hr (by decide) rfl (takes_of rfl rfl rfl rfl) (pa_cons (pv 0) (pa_cons (pe_un un_neg (pe_gc rfl mM)) (pa_cons (pe_gc rfl mM) pa_nil)))))
      (pss_cons (ps_if (pt_cmpR op_eq (pv 0) pe_int (nomark _)) (pss_one (ps_raise rfl (takes_of rfl rfl rfl rfl) (pmk_own0 PySem.F.excBase_ValueError Z.ex Z.gC Z.kC (raises_own Z.sC Z.tC) rfl))) pss_nil)
      (pss_cons (ps_if (PW.pt (pw_or (pt_cmpR op_eq (pv 0) pe_int (nomark _)) (pw_or1 (pt_cmpR op_ne (pe_c G1 hr (by decide) rfl (pa_cons (pv 0) pa_nil)) (pv 0) (nomark _)))))
        (pss_one (ps_raiseNum rfl T hr (takes_of rfl rfl rfl rfl) (pa_cons (pv 0) pa_nil))) pss_nil)
      (pss_cons (ps_set (i := 1) scCyclicAbove.nd rfl (Or.inl rfl) (pe_c G2 hr (by decide) rfl (pa_cons (pv 0) pa_nil)))
      (pss_cons (ps_if (pt_cmpR op_notN (pv 1) pe_non (nomark _)) (pss_one (ps_ret (pe_tup (pa_cons pe_str (pa_cons (pv 1) pa_nil))))) pss_nil)
      (pss_cons (ps_asg (pe_ix ix_list (pe_c G3 hr (by decide) rfl (pa_cons (pv 0) pa_nil)) pe_int (fun _ _ => rfl)) (pg_tup (by rfl) (pgs_cons (pg_name (i := 2) scCyclicAbove.nd rfl (Or.inl rfl)) (pgs_cons (pg_name (i := 3) scCyclicAbove.nd rfl (Or.inl rfl)) pgs_nil))))
      (pss_one (ps_ret (pe_tup (pa_cons pe_str (pa_cons (pe_c G4 hr (by decide) rfl (pa_cons (pv 2) (pa_cons (pv 3) (pa_cons pe_int pa_nil)))) pa_nil)))))))))), ?_⟩
    walk_at "vc"
    refine ⟨d, -1000000, 1000000, rfl, fun h1 h2 => ?_, fun h x nx => kA (by omega) x nx⟩
    refine ite2 (fun c0 => kZ c0) (fun c0 => ite2 (fun c1 x nx => kN h1 h2 c0 (.inl c1) x H (Same.refl H) nx) (fun c1 => ?_))
    refine ⟨d, rfl, c0, h1, h2, fun r H1 s1 hsq => ⟨rfl, ?_⟩⟩
    by_cases cr' : r ≠ d
    · refine Or.inr ⟨by simpa using cr', fun x nx => ?_⟩
      exact kN h1 h2 c0 (.inr fun z => cr' (hsq.mpr z)) x H1 s1 nx
    have cr : r = d := Decidable.of_not_not cr'
    obtain ⟨g1, g2, g3⟩ := kG h1 h2 c1 (hsq.mp cr)
    refine Or.inl ⟨by rw [cr], d, rfl, c0, h2, fun hneg => ?_, fun hpos b H2 s2 hb => ?_⟩
    · simp
      refine ⟨small_line (by decide), fun t nt => g1 hneg t _ (fun b o e => ?_) upd_same⟩
      rw [upd_ne (ne_of_none (s1 b o e) nt)]
      exact s1 b o e
    · have s12 := s1.trans s2
      cases b with
      | some p =>
        simp [barV]
        refine ⟨small_line (by decide), fun t nt => g2 hpos p t _ (fun b o e => ?_) hb upd_same⟩
        rw [upd_ne (ne_of_none (s12 b o e) nt)]
        exact s12 b o e
      | none =>
        simp [barV]
        refine ⟨d, rfl, by omega, h2, fun p H3 xs ps s3 hp pa hall hne => ⟨p, rfl, xs, SqL.of hp, ?_⟩⟩
        have htwo : Two d := (two_iff (by omega) (hsq.mp cr)).mpr hb
        have hps := hne htwo
        match xs, ps, pa, hps, hall, hp with
        | [], [], _, z, _, _ => exact absurd rfl z
        | [], _ :: _, pa, _, _, _ => exact pa.elim
        | _ :: _, [], pa, _, _, _ => exact pa.elim
        | x :: xs, q :: ps, pa, _, hall, hp =>
          obtain ⟨⟨t, rfl, ht⟩, _⟩ := pa
          obtain ⟨q0, q1, q2⟩ := hall q (List.mem_cons_self ..)
          have s123 := s12.trans s3
          refine ⟨.ref t, by simp [atI, ixN], t, rfl, _, SqT.of ht, rfl, ?_⟩
          have uu : q.1 * q.1 ≤ 1000000 := by have := Int.mul_nonneg q1 q1; omega
          have vv : q.2 * q.2 ≤ 1000000 := by have := Int.mul_nonneg q0 q0; omega
          have bnd : ∀ a : Int, 0 ≤ a → a * a ≤ 1000000 → a ≤ 1000 := by
            intro a ha h
            apply Decidable.byContradiction; intro z
            have : 1001 * 1001 ≤ a * a := Int.mul_le_mul (by omega) (by omega) (by omega) (by omega)
            omega
          simp [and_assoc]
          refine ⟨q.1, q.2, rfl, q0, bnd _ q0 uu, q1, bnd _ q1 vv, fun y H4 s4 hy => ⟨small_line (by decide), fun t' nt' => ?_⟩⟩
          have s1234 := s123.trans s4
          rw [q2] at hy
          refine g3 hpos q.1 q.2 y t' _ (fun b o e => ?_) hb q2 q0 q1 ?_ upd_same
          · rw [upd_ne (ne_of_none (s1234 b o e) nt')]
            exact s1234 b o e
          · obtain ⟨dx, fs, ct, e1, e2, e3⟩ := hy
            exact ⟨dx, fs, ct, by rw [upd_ne (ne_of_none e1 nt')]; exact e1, e2, by rw [upd_ne (ne_of_none e3 nt')]; exact e3⟩
end
end K72
set_option Elab.async false
set_option linter.all false
set_option maxRecDepth 100000
set_option maxHeartbeats 4000000
namespace K72
open PySem PySem.Spec PyProof.Rows L2
open C8 (Cal Mak pe_c pe_mk pe_gc)
local macro_rules | `(tactic| walk_at "vc") => `(tactic| simp [tSeq, tAsg, tOp, tVar, tC, tIfS, tTest, tB, tAnd, tOr, tNot, tAndV, tOrV, tNotV, rI0, rI, rU, tUn, gName, tRet, tRetN, tNext, tNever, L2.start, rEq, rNe, scal_int, tCons, tNil, tCB, tCall, tIf, tChain, tDrop, tLst, tTup, gTup, gCons, gNil, tBM, rAppend, tFor_l, tFor_t, tFor_r1, tFor_r2, cxOf_K, and_assoc, tThen, kTup, tSl, rSlL, rSlA, tFld, sFld, tMake, tNoPart, tPart, rIxL, rIxT, tCallS, tRaiseNum, tMkNum])
/-- x ** 2 of a great number -/
theorem op_sqr {X : Cx} : OpR X (binaryOp .Pow) (rI (fun i j => Gr i ∧ j = 2) fun i j => .int (i ^ j.toNat)) := opI fun i j _ _ _ _ _ hc q => by
  obtain ⟨h1, rfl⟩ := hc
  refine pow_int (by decide) ?_ q
  have hb : Builtin.Int.intBits i ≤ i.natAbs.log2 + 1 := by
    unfold Builtin.Int.intBits
    split <;> omega
  have hl : i.natAbs.log2 < 400 := PySem.Flt.log2_lt_of (by decide) h1
  have : (Builtin.Int.intBits i : Int) ≤ 401 := by omega
  omega
/-- the root, rounded down -/
def Fl (n r : Int) : Prop := 0 ≤ r ∧ r * r ≤ n ∧ n < (r + 1) * (r + 1)
theorem fl_one {n r s : Int} (h1 : Fl n r) (h2 : Fl n s) : r = s := by
  have key : ∀ {a b : Int}, Fl n a → Fl n b → ¬ a < b := by
    intro a b ha hb h
    have : (a + 1) * (a + 1) ≤ b * b := Int.mul_le_mul (by omega) (by omega) (by have := ha.1; omega) hb.1
    have := ha.2.2
    have := hb.2.1
    omega
  have := key h1 h2
  have := key h2 h1
  omega
theorem fl_sq {n r k : Int} (h : Fl n r) (e : k * k = n) : r * r = n := by
  obtain ⟨a, a0, ea⟩ : ∃ a, 0 ≤ a ∧ a * a = k * k := by
    by_cases h : 0 ≤ k
    · exact ⟨k, h, rfl⟩
    · exact ⟨-k, by omega, Int.neg_mul_neg k k⟩
  have : Fl n a := ⟨a0, by omega, by
    have : (a + 1) * (a + 1) = a * a + 2 * a + 1 := by grind
    omega⟩
  rw [fl_one h this]; omega
section
variable {P : Program} {w : World} {K : PySem.W.Frag} {mg : Str → Option Value} {base : Heap}
theorem scLawRoot : FnScope ["number", "guess"] ["number"] (defScope sLawRoot) := ⟨rfl, rfl, rfl, by decide +kernel, rfl, by decide +kernel, by decide +kernel⟩
def big : Int := 1000000000000000000000000000000000000000000000000000000000000
def spLroot : Sp := fun vs H Q _ => ∃ n : Int, vs = [.int n] ∧ 0 ≤ n ∧ n ≤ big ∧ ∀ r, Fl n r → Q (.int r) H
theorem newton {n g : Int} (hn : 0 ≤ n) (hg : 0 ≤ g) (h1 : n < (g + 1) * (g + 1)) (h2 : n < g * g) : n < ((g + n / g) / 2 + 1) * ((g + n / g) / 2 + 1) ∧ 0 ≤ (g + n / g) / 2 ∧ (g + n / g) / 2 < g := by
  have g1 : 1 ≤ g := by
    apply Decidable.byContradiction; intro z
    have : g = 0 := by omega
    subst this
    omega
  have hq0 : 0 ≤ n / g := Int.ediv_nonneg hn hg
  have hq : n / g < g := Int.ediv_lt_of_lt_mul (by omega) h2
  have hm := Int.mul_ediv_add_emod n g
  have hr := Int.emod_lt_of_pos n (show 0 < g by omega)
  have hr0 := Int.emod_nonneg n (show g ≠ 0 by omega)
  refine ⟨?_, by omega, by omega⟩
  -- (g + q) / 2 = m: 4 (m+1)^2 > (g+q)^2 + .. ≥ 4 g q + .. 
  generalize hqe : n / g = q at *
  generalize hme : (g + q) / 2 = m
  have hm2 : g + q ≤ 2 * m + 1 := by omega
  have e1 : (g + q + 1) * (g + q + 1) ≤ (2 * m + 2) * (2 * m + 2) := Int.mul_le_mul (by omega) (by omega) (by omega) (by omega)
  have e2 : (2 * m + 2) * (2 * m + 2) = 4 * ((m + 1) * (m + 1)) := by grind
  have e3 : (g + q + 1) * (g + q + 1) = (g - q - 1) * (g - q - 1) + 4 * (g * q + g) := by grind
  have e4 : 0 ≤ (g - q - 1) * (g - q - 1) := Int.mul_nonneg (by omega) (by omega)
  omega
theorem ok_lroot {f : Addr} {fd : FuncData} (F : Fun K "_law_root" "_law_root" sLawRoot f fd) : FnOk P w K mg base CX0 1 f fd ["number"] spLroot := by
  refine F.ok scLawRoot (fun vs H Q E h => ?_) (fun cdv A outer s H vs Q E hr h => ?_)
  · obtain ⟨n, rfl, _⟩ := h
    rfl
  · obtain ⟨n, rfl, h0, h1, k⟩ := h
    unfold big at h1
    refine ⟨_, pss_cons (ps_set (i := 1) scLawRoot.nd rfl (Or.inl rfl) pe_int)
      (pss_cons (ps_while PassesOwn.never (pt_cmpR op_lt (pe_op op_mulW (pv 1) (pv 1)) (pv 0) (nomark _))
        (pss_one (ps_set (i := 1) scLawRoot.nd rfl (Or.inl rfl) (pe_op op_mulW pe_int (pv 1)))))
      (pss_cons (ps_while PassesOwn.never (pt_cmpR op_gt (pe_op op_mulW (pv 1) (pv 1)) (pv 0) (nomark _))
        (pss_one (ps_set (i := 1) scLawRoot.nd rfl (Or.inl rfl) (pe_op op_fdivW (pe_op op_add (pv 1) (pe_op op_fdivW (pv 0) (pv 1))) pe_int))))
      (pss_one (ps_ret (pv 1))))), ?_⟩
    walk_at "vc"
    refine while_st (fun (g : Int) σ H' => σ = [some (.int n), some (.int g)] ∧ H' = H ∧ 1 ≤ g ∧ g ≤ 2 * n + 1) (fun g => (2 * n + 1 - g).toNat) 1 ⟨rfl, rfl, by omega, by omega⟩ ?_
    rintro g σ H' ⟨rfl, rfl, g1, g2⟩
    walk_at "vc"
    have gg : g * 1 ≤ g * g := Int.mul_le_mul_of_nonneg_left g1 (by omega)
    have gG : Gr g := gr_of (by omega) (by omega)
    refine ⟨cmul gG gG, ite2 (fun c => loop_in fun N hN => ?_) (fun c => ?_)⟩
    · walk_at "vc"
      exact ⟨cmul (gr_of (by omega) (by omega)) gG, hN (2 * g) _ _ ⟨rfl, rfl, by omega, by omega⟩ (by omega)⟩
    · refine while_st (fun (g : Int) σ H'' => σ = [some (.int n), some (.int g)] ∧ H'' = H' ∧ 0 ≤ g ∧ g ≤ 2 * n + 1 ∧ n < (g + 1) * (g + 1)) (fun g => g.toNat) g ⟨rfl, rfl, by omega, g2, ?_⟩ ?_
      · have : (g + 1) * (g + 1) = g * g + 2 * g + 1 := by grind
        omega
      · rintro g σ H'' ⟨rfl, rfl, g0, g2, g3⟩
        walk_at "vc"
        have gG : Gr g := gr_of (by omega) (by omega)
        refine ⟨cmul gG gG, ite2 (fun c => loop_in fun N hN => ?_) (fun c => ?_)⟩
        · walk_at "vc"
          obtain ⟨n1, n2, n3⟩ := newton h0 g0 g3 c
          exact ⟨cdiv (by omega) gG, cdiv (by omega) (gr_of (by omega) (by omega)), hN _ _ _ ⟨rfl, rfl, n2, by omega, n1⟩ (by omega)⟩
        · exact k g ⟨g0, by omega, g3⟩
/-! ### _law_square -/
theorem scLawSquare : FnScope ["number"] ["number"] (defScope sLawSquare) := ⟨rfl, rfl, rfl, by decide +kernel, rfl, by decide +kernel, by decide +kernel⟩
def spLsq : Sp := fun vs H Q _ => ∃ n : Int, vs = [.int n] ∧ -big ≤ n ∧ n ≤ big ∧ ((∃ k, k * k = n) → Q (.bl true) H) ∧ (¬ (∃ k, k * k = n) → Q (.bl false) H)
theorem ok_lsq {f : Addr} {fd : FuncData} (F : Fun K "_law_square" "_law_square" sLawSquare f fd) (G1 : Cal P w K mg base 1 "_law_root" spLroot []) : FnOk P w K mg base CX0 2 f fd ["number"] spLsq := by
  refine F.ok scLawSquare (fun vs H Q E h => ?_) (fun cdv A outer s H vs Q E hr h => ?_)
  · obtain ⟨n, rfl, _⟩ := h
    rfl
  · obtain ⟨n, rfl, h0, h1, k1, k2⟩ := h
    refine ⟨_, pss_one (ps_ret (pe_and (pe_cmpR op_ge (pv 0) pe_int (nomark _)) (pe_one (pe_cmpR op_eq (pe_op op_sqr (pe_c G1 hr (by decide) rfl (pa_cons (pv 0) pa_nil)) pe_int) (pv 0) (nomark _))))), ?_⟩
    walk_at "vc"
    unfold big at h0 h1
    have sqr : ∀ r : Int, r ^ 2 = r * r := fun r => by rw [show (2 : Nat) = 0 + 1 + 1 from rfl, Int.pow_succ, Int.pow_succ, Int.pow_zero, Int.one_mul]
    refine ite2 (fun c => ⟨n, rfl, c, by unfold big; omega, fun r hr => ⟨r, rfl, ?_, ?_⟩⟩) (fun c => k2 ?_)
    · obtain ⟨r0, r1, r2⟩ := hr
      have : r ≤ 1000000000000000000000000000000 := by
        apply Decidable.byContradiction; intro z
        have : 1000000000000000000000000000001 * 1000000000000000000000000000001 ≤ r * r := Int.mul_le_mul (by omega) (by omega) (by omega) (by omega)
        omega
      exact gr_of (by omega) (by omega)
    · by_cases e : ∃ k, k * k = n
      · obtain ⟨k, hk⟩ := e
        have e2 := fl_sq hr hk
        rw [← sqr] at e2
        simp [e2]
        exact k1 ⟨k, hk⟩
      · have e2 : ¬ r ^ 2 = n := fun z => e ⟨r, by rw [← sqr]; exact z⟩
        simp [e2]
        exact k2 e
    · rintro ⟨k, hk⟩
      have : 0 ≤ k * k := by
        by_cases h : 0 ≤ k
        · exact Int.mul_nonneg h h
        · rw [← Int.neg_mul_neg]
          exact Int.mul_nonneg (by omega) (by omega)
      omega
/-! ### _law_two -/
theorem scLawTwo : FnScope ["d", "u", "v", "size"] ["d"] (defScope sLawTwo) := ⟨rfl, rfl, rfl, by decide +kernel, rfl, by decide +kernel, by decide +kernel⟩
def spLtwo : Sp := fun vs H Q _ => ∃ d : Int, vs = [.int d] ∧ 0 ≤ d ∧ d ≤ big ∧ (Two d → Q (.bl true) H) ∧ (¬ Two d → Q (.bl false) H)
abbrev InvLt (d r : Int) (H : Hp) (z : Int × Int) (σ : L2.St) (H' : Hp) : Prop := ∃ o, σ = [some (.int d), some (.int z.1), some (.int z.2), o] ∧ H' = H ∧ 0 ≤ z.1 ∧ z.2 ≤ r ∧ z.1 ≤ z.2 + 1 ∧ ∀ a b, 0 ≤ a → a ≤ b → a * a + b * b = d → z.1 ≤ a ∧ b ≤ z.2
theorem ok_ltwo {f : Addr} {fd : FuncData} (F : Fun K "_law_two" "_law_two" sLawTwo f fd) (G1 : Cal P w K mg base 1 "_law_root" spLroot []) : FnOk P w K mg base CX0 2 f fd ["d"] spLtwo := by
  refine F.ok scLawTwo (fun vs H Q E h => ?_) (fun cdv A outer s H vs Q E hr h => ?_)
  · obtain ⟨n, rfl, _⟩ := h
    rfl
  · obtain ⟨d, rfl, h0, h1, k1, k2⟩ := h
    refine ⟨_, pss_cons (ps_set (i := 1) scLawTwo.nd rfl (Or.inl rfl) pe_int)
      (pss_cons (ps_set (i := 2) scLawTwo.nd rfl (Or.inl rfl) (pe_c G1 hr (by decide) rfl (pa_cons (pv 0) pa_nil)))
      (pss_cons (ps_while PassesOwn.never (pt_cmpR op_le (pv 1) (pv 2) (nomark _))
        (pss_cons (ps_set (i := 3) scLawTwo.nd rfl (Or.inl rfl) (pe_op op_add (pe_op op_mulW (pv 1) (pv 1)) (pe_op op_mulW (pv 2) (pv 2))))
        (pss_cons (ps_if (pt_cmpR op_eq (pv 3) (pv 0) (nomark _))
          (pss_one (ps_ret pe_bl))
          pss_nil)
        (pss_one (ps_if (pt_cmpR op_lt (pv 3) (pv 0) (nomark _))
          (pss_one (ps_set (i := 1) scLawTwo.nd rfl (Or.inl rfl) (pe_op op_add (pv 1) pe_int)))
          (pss_one (ps_set (i := 2) scLawTwo.nd rfl (Or.inl rfl) (pe_op op_sub (pv 2) pe_int))))))))
      (pss_one (ps_ret pe_bl)))), ?_⟩
    walk_at "vc"
    refine ⟨d, rfl, h0, h1, fun r hr => ?_⟩
    unfold big at h1
    obtain ⟨r0, r1, r2⟩ := hr
    have rd : r ≤ d := by
      by_cases z : r = 0
      · omega
      · have : r * 1 ≤ r * r := Int.mul_le_mul_of_nonneg_left (by omega) (by omega)
        omega
    refine while_st (InvLt d r H) (fun z => (z.2 + 1 - z.1).toNat) (0, r) ⟨none, rfl, rfl, by simp, by simp, by simp; omega, ?_⟩ ?_
    · intro a b ha hab e
      refine ⟨ha, ?_⟩
      apply Decidable.byContradiction; intro z
      simp only at z
      have : (r + 1) * (r + 1) ≤ b * b := Int.mul_le_mul (by omega) (by omega) (by omega) (by omega)
      have : 0 ≤ a * a := Int.mul_nonneg ha ha
      omega
    · rintro ⟨u, v⟩ σ H' ⟨o, rfl, rfl, u0, vr, uv, hall⟩
      simp only at u0 vr uv hall
      walk_at "vc"
      refine ite2 (fun c => loop_in fun N hN => ?_) (fun c => ?_)
      · walk_at "vc"
        have gu : Gr u := gr_of (by omega) (by omega)
        have gv : Gr v := gr_of (by omega) (by omega)
        refine ⟨cmul gu gu, cmul gv gv, ite2 (fun c1 => k1 ⟨u, v, c1⟩) (fun c1 => ite2 (fun c2 => ?_) (fun c2 => ?_))⟩
        · refine hN (u + 1, v) _ _ ⟨some (.int (u * u + v * v)), rfl, rfl, by simp only; omega, vr, by simp only; omega, fun a b ha hab e => ?_⟩ (by simp only; omega)
          obtain ⟨g1, g2⟩ := hall a b ha hab e
          refine ⟨?_, g2⟩
          simp only
          by_cases z : a = u
          · subst z
            have : b * b ≤ v * v := Int.mul_le_mul g2 g2 (by omega) (by omega)
            omega
          · omega
        · refine hN (u, v - 1) _ _ ⟨some (.int (u * u + v * v)), rfl, rfl, u0, by simp only; omega, by simp only; omega, fun a b ha hab e => ?_⟩ (by simp only; omega)
          obtain ⟨g1, g2⟩ := hall a b ha hab e
          refine ⟨g1, ?_⟩
          simp only
          by_cases z : b = v
          · subst z
            have : u * u ≤ a * a := Int.mul_le_mul g1 g1 (by omega) (by omega)
            omega
          · omega
      · refine k2 ?_
        rintro ⟨a, b, e⟩
        have key : ∀ a b : Int, 0 ≤ a → a ≤ b → a * a + b * b ≠ d := fun a b ha hab e => by
          obtain ⟨g1, g2⟩ := hall a b ha hab e
          omega
        have sgnl : ∀ a : Int, ∃ a', 0 ≤ a' ∧ a' * a' = a * a := by
          intro a
          by_cases h : 0 ≤ a
          · exact ⟨a, h, rfl⟩
          · exact ⟨-a, by omega, Int.neg_mul_neg a a⟩
        obtain ⟨a', a0, ea⟩ := sgnl a
        obtain ⟨b', b0, eb⟩ := sgnl b
        by_cases hab : a' ≤ b'
        · exact key a' b' a0 hab (by omega)
        · exact key b' a' b0 (by omega) (by omega)
end
end K72
set_option Elab.async false
set_option linter.all false
set_option maxRecDepth 100000
set_option maxHeartbeats 4000000
namespace K72
open PySem PySem.Spec PyProof.Rows L2
open C8 (Cal Mak pe_c pe_mk pe_gc)
/-- the turns of a comprehension over what J walks; D the new list -/
def LcJ (J : It) (g : TG) (tt : TT) (te : TE) (vs : List Nat) (σ : L2.St) (H1 : Hp) (D : Addr) (Qd : Hp → Prop) : Prop := ∃ W : Nat → Nat → Hp → Prop, (∃ m, W 0 m (upd H1 D (.lst []))) ∧ ∀ i m H, W i m H →
  (J.stop i H ∧ Qd H) ∨ (J.go i H ∧ ∃ Nx : Hp → Prop, (∀ H', Nx H' → ∃ m', m' < m ∧ W (i + 1) m' H') ∧ ∀ x H', J.yld i H x H' → g x (wipe σ vs) H' fun σ2 H2 => wipe σ2 vs = wipe σ vs ∧ tt σ2 H2 fun b H3 =>
    if b = true then te σ2 H3 fun y H4 => ∃ acc, H4 D = some (.lst acc) ∧ acc.length < sizeLine ∧ Nx (upd H4 D (.lst (acc ++ [y]))) else Nx H3)
theorem tLc_l {K : PySem.W.Frag} {t0 te : TE} {g : TG} {tt : TT} {vs : List Nat} {σ : L2.St} {H : Hp} {Q : VK} : tLc (iList K t0) g tt te vs σ H Q = t0 σ H fun x H1 => ∃ a, x = .ref a ∧ (∃ xs, SqL K H1 a xs) ∧ ∀ D, H1 D = none → LcJ (Itl K a) g tt te vs σ H1 D fun H => Q (.ref D) H := rfl
theorem tLc_t {K : PySem.W.Frag} {t0 te : TE} {g : TG} {tt : TT} {vs : List Nat} {σ : L2.St} {H : Hp} {Q : VK} : tLc (iTup K t0) g tt te vs σ H Q = t0 σ H fun x H1 => ∃ a, x = .ref a ∧ (∃ xs, SqT K H1 a xs) ∧ ∀ D, H1 D = none → LcJ (Itt K a) g tt te vs σ H1 D fun H => Q (.ref D) H := rfl
theorem tLc_r1 {ta : TA} {te : TE} {g : TG} {tt : TT} {vs : List Nat} {σ : L2.St} {H : Hp} {Q : VK} : tLc (iRng1 ta) g tt te vs σ H Q = ta σ H fun us H1 => ∃ j : Int, us = [.int j] ∧ -(2 ^ 62) ≤ j ∧ j < 2 ^ 62 ∧ ∀ D, H1 D = none → LcJ (Itr 0 j.toNat) g tt te vs σ H1 D fun H => Q (.ref D) H := rfl
theorem lc_l {K : PySem.W.Frag} {a : Addr} {xs : List V} {g : TG} {tt : TT} {te : TE} {vs : List Nat} {σ : L2.St} {H1 : Hp} {D : Addr} {Qd : Hp → Prop} (Pv : Nat → Hp → Prop) (h0 : Pv 0 (upd H1 D (.lst []))) (hl : ∀ i H, i ≤ xs.length → Pv i H → SqL K H a xs)
    (hs : ∀ i x H, xs[i]? = some x → Pv i H → ∀ N : Hp → Prop, (∀ H', Pv (i + 1) H' → N H') → g x (wipe σ vs) H fun σ2 H2 => wipe σ2 vs = wipe σ vs ∧ tt σ2 H2 fun b H3 =>
      if b = true then te σ2 H3 fun y H4 => ∃ acc, H4 D = some (.lst acc) ∧ acc.length < sizeLine ∧ N (upd H4 D (.lst (acc ++ [y]))) else N H3) (hd : ∀ H, Pv xs.length H → Qd H) : LcJ (Itl K a) g tt te vs σ H1 D Qd :=
  lc_list Pv h0 hl (fun i x H hi p => hs i x H hi p _ fun _ h => h) hd
theorem lc_t {K : PySem.W.Frag} {a : Addr} {xs : List V} {g : TG} {tt : TT} {te : TE} {vs : List Nat} {σ : L2.St} {H1 : Hp} {D : Addr} {Qd : Hp → Prop} (Pv : Nat → Hp → Prop) (h0 : Pv 0 (upd H1 D (.lst []))) (hl : ∀ i H, i ≤ xs.length → Pv i H → SqT K H a xs)
    (hs : ∀ i x H, xs[i]? = some x → Pv i H → ∀ N : Hp → Prop, (∀ H', Pv (i + 1) H' → N H') → g x (wipe σ vs) H fun σ2 H2 => wipe σ2 vs = wipe σ vs ∧ tt σ2 H2 fun b H3 =>
      if b = true then te σ2 H3 fun y H4 => ∃ acc, H4 D = some (.lst acc) ∧ acc.length < sizeLine ∧ N (upd H4 D (.lst (acc ++ [y]))) else N H3) (hd : ∀ H, Pv xs.length H → Qd H) : LcJ (Itt K a) g tt te vs σ H1 D Qd :=
  lc_tup Pv h0 hl (fun i x H hi p => hs i x H hi p _ fun _ h => h) hd
theorem lc_r {lo : Int} {n : Nat} {g : TG} {tt : TT} {te : TE} {vs : List Nat} {σ : L2.St} {H1 : Hp} {D : Addr} {Qd : Hp → Prop} (Pv : Nat → Hp → Prop) (h0 : Pv 0 (upd H1 D (.lst [])))
    (hs : ∀ i H, i < n → Pv i H → ∀ N : Hp → Prop, (∀ H', Pv (i + 1) H' → N H') → g (.int (lo + i)) (wipe σ vs) H fun σ2 H2 => wipe σ2 vs = wipe σ vs ∧ tt σ2 H2 fun b H3 =>
      if b = true then te σ2 H3 fun y H4 => ∃ acc, H4 D = some (.lst acc) ∧ acc.length < sizeLine ∧ N (upd H4 D (.lst (acc ++ [y]))) else N H3) (hd : ∀ H, Pv n H → Qd H) : LcJ (Itr lo n) g tt te vs σ H1 D Qd :=
  lc_range Pv h0 (fun i H hi p => hs i H hi p _ fun _ h => h) hd
local macro_rules | `(tactic| walk_at "vc") => `(tactic| simp [tSeq, tAsg, tOp, tVar, tC, tIfS, tTest, tB, tAnd, tOr, tNot, tAndV, tOrV, tNotV, rI0, rI, rU, tUn, gName, tRet, tRetN, tNext, tNever, L2.start, rEq, rNe, scal_int, tCons, tNil, tCB, tCall, tIf, tChain, tDrop, tLst, tTup, gTup, gCons, gNil, tBM, rAppend, tFor_l, tFor_t, tFor_r1, tFor_r2, cxOf_K, and_assoc, tThen, kTup, tSl, rSlL, rSlA, tFld, sFld, tMake, tNoPart, tPart, rIxL, rIxT, tCallS, tRaiseNum, tMkNum, tRevL, tLc_l, tLc_t, tLc_r1])
theorem abm {a b : Int} {A B : Nat} (ha : a.natAbs ≤ A) (hb : b.natAbs ≤ B) : (a * b).natAbs ≤ A * B := by
  rw [Int.natAbs_mul]
  exact Nat.mul_le_mul ha hb
theorem gr_nat {a : Int} {A : Nat} (ha : a.natAbs ≤ A) (h : A < 2582249878086908589655919172003011874329705792829223512830659356540647622016841194629645353280137831435903171972747493376) : Gr a := gr_of (by omega) (by omega)
section
variable {P : Program} {w : World} {K : PySem.W.Frag} {mg : Str → Option Value} {base : Heap}
/-! ### _law_value of a monic cubic -/
/-- x ^ 3 + c x ^ 2 + b x + a, as the loop reckons it -/
def cub (a b c x : Int) : Int := ((x + c) * x + b) * x + a
abbrev cubL (a b c : Int) : List V := [.int a, .int b, .int c, .int 1]
def E20 : Nat := 100000000000000000000
theorem scLawValue : FnScope ["f", "x", "told", "c"] ["f", "x"] (defScope sLawValue) := ⟨rfl, rfl, rfl, by decide +kernel, rfl, by decide +kernel, by decide +kernel⟩
def spVal (K : PySem.W.Frag) : Sp := fun vs H Q _ => ∃ (p : Addr) (a b c x : Int), vs = [.ref p, .int x] ∧ SqL K H p (cubL a b c) ∧ a.natAbs ≤ E20 ∧ b.natAbs ≤ E20 ∧ c.natAbs ≤ E20 ∧ x.natAbs ≤ E20 ∧ ∀ H', Same H H' → Q (.int (cub a b c x)) H'
def stp (a b c x : Int) : Nat → Int
  | 0 => 0
  | 1 => 1
  | 2 => x + c
  | 3 => (x + c) * x + b
  | _ => cub a b c x
theorem ok_val {f : Addr} {fd : FuncData} (F : Fun K "_law_value" "_law_value" sLawValue f fd) : FnOk P w K mg base CX0 1 f fd ["f", "x"] (spVal K) := by
  refine F.ok scLawValue (fun vs H Q E h => ?_) (fun cdv A outer s H vs Q E hr h => ?_)
  · obtain ⟨p, a, b, c, x, rfl, _⟩ := h
    rfl
  · obtain ⟨p, a, b, c, x, rfl, hs, ha, hb, hc, hx, k⟩ := h
    refine ⟨_, pss_cons (ps_set (i := 2) scLawValue.nd rfl (Or.inl rfl) pe_int)
      (pss_cons (ps_for PassesOwn.never rfl (pi_list (pe_revL (pv 0))) (pg_name (i := 3) scLawValue.nd rfl (Or.inl rfl))
        (pss_one (ps_set (i := 2) scLawValue.nd rfl (Or.inl rfl) (pe_op op_add (pe_op op_mulW (pv 2) (pv 1)) (pv 3)))))
      (pss_one (ps_ret (pv 2)))), ?_⟩
    walk_at "vc"
    refine ⟨cubL a b c, hs, fun q nq => ⟨⟨_, SqL.of upd_same⟩, ?_⟩⟩
    refine for_l (xs := [.int 1, .int c, .int b, .int a]) (fun i σ H' => ∃ o, σ = [some (.ref p), some (.int x), some (.int (stp a b c x i)), o] ∧ H' = upd H q (.lst [.int 1, .int c, .int b, .int a])) ⟨none, rfl, rfl⟩ (fun i σ H' _ ⟨_, _, e⟩ => by rw [e]; exact SqL.of upd_same) ?_ ?_
    · rintro i y σ H' hi ⟨o, rfl, rfl⟩ N hN
      have e1 : (x + c).natAbs ≤ 2 * E20 := by omega
      have e2 := abm e1 hx
      have e3 : ((x + c) * x + b).natAbs ≤ 2 * E20 * E20 + E20 := by omega
      have gx : Gr x := gr_nat hx (by decide)
      match i, hi with
      | 0, hi =>
        cases hi
        walk_at "vc"
        exact ⟨cmul (gr_nat (A := 0) (by simp [stp]) (by decide +kernel)) gx, hN _ _ ⟨some (.int 1), by simp [stp], rfl⟩⟩
      | 1, hi =>
        cases hi
        walk_at "vc"
        exact ⟨cmul (gr_nat (A := 1) (by simp [stp]) (by decide +kernel)) gx, hN _ _ ⟨some (.int c), by simp [stp], rfl⟩⟩
      | 2, hi =>
        cases hi
        walk_at "vc"
        exact ⟨cmul (gr_nat e1 (by decide +kernel)) gx, hN _ _ ⟨some (.int b), by simp [stp], rfl⟩⟩
      | 3, hi =>
        cases hi
        walk_at "vc"
        exact ⟨cmul (gr_nat e3 (by decide +kernel)) gx, hN _ _ ⟨some (.int a), by simp [stp, cub], rfl⟩⟩
      | i + 4, hi => simp at hi
    · rintro σ H' ⟨o, rfl, rfl⟩
      walk_at "vc"
      exact k _ (fun b o e => by rw [upd_ne (ne_of_none e nq)]; exact e)
/-! ### _law_find: a bisection -/
theorem scLawFind : FnScope ["g", "low", "high", "sign", "middle"] ["g", "low", "high", "sign"] (defScope sLawFind) := ⟨rfl, rfl, rfl, by decide +kernel, rfl, by decide +kernel, by decide +kernel⟩
/-- t is where the sign turns -/
def TurnAt (a b c sg lo hi t : Int) : Prop := lo ≤ t ∧ t ≤ hi ∧ (∀ x, lo ≤ x → x < t → sg * cub a b c x < 0) ∧ ∀ x, t ≤ x → x ≤ hi → 0 ≤ sg * cub a b c x
def spFind (K : PySem.W.Frag) : Sp := fun vs H Q _ => ∃ (p : Addr) (a b c lo hi sg : Int), vs = [.ref p, .int lo, .int hi, .int sg] ∧ SqL K H p (cubL a b c) ∧ a.natAbs ≤ E20 ∧ b.natAbs ≤ E20 ∧ c.natAbs ≤ E20 ∧ lo.natAbs ≤ E20 ∧ hi.natAbs ≤ E20 ∧ sg.natAbs ≤ 1 ∧
  ∀ r H', Same H H' → r.natAbs ≤ E20 → (∀ t, TurnAt a b c sg lo hi t → r = t) → Q (.int r) H'
abbrev InvFind (p : Addr) (a b c lo hi sg : Int) (H : Hp) (z : Int × Int) (σ : L2.St) (H' : Hp) : Prop :=
  ∃ o, σ = [some (.ref p), some (.int z.1), some (.int z.2), some (.int sg), o] ∧ Same H H' ∧ z.1.natAbs ≤ E20 ∧ z.2.natAbs ≤ E20 ∧ lo ≤ z.1 ∧ z.2 ≤ hi ∧ ∀ t, TurnAt a b c sg lo hi t → z.1 ≤ t ∧ t ≤ z.2
theorem ok_find {f : Addr} {fd : FuncData} (F : Fun K "_law_find" "_law_find" sLawFind f fd) (G1 : Cal P w K mg base 1 "_law_value" (spVal K) []) : FnOk P w K mg base CX0 2 f fd ["g", "low", "high", "sign"] (spFind K) := by
  refine F.ok scLawFind (fun vs H Q E h => ?_) (fun cdv A outer s H vs Q E hr h => ?_)
  · obtain ⟨p, a, b, c, lo, hi, sg, rfl, _⟩ := h
    rfl
  · obtain ⟨p, a, b, c, lo, hi, sg, rfl, hs, ha, hb, hc, hlo, hhi, hsg, k⟩ := h
    refine ⟨_, pss_cons (ps_while PassesOwn.never (pt_cmpR op_lt (pv 1) (pv 2) (nomark _))
        (pss_cons (ps_set (i := 4) scLawFind.nd rfl (Or.inl rfl) (pe_op op_fdivW (pe_op op_add (pv 1) (pv 2)) pe_int))
        (pss_one (ps_if (pt_cmpR op_ge (pe_op op_mulW (pv 3) (pe_c G1 hr (by decide) rfl (pa_cons (pv 0) (pa_cons (pv 4) pa_nil)))) pe_int (nomark _))
          (pss_one (ps_set (i := 2) scLawFind.nd rfl (Or.inl rfl) (pv 4)))
          (pss_one (ps_set (i := 1) scLawFind.nd rfl (Or.inl rfl) (pe_op op_add (pv 4) pe_int)))))))
      (pss_one (ps_ret (pv 1))), ?_⟩
    have e20 : (E20 : Int) = 100000000000000000000 := rfl
    walk_at "vc"
    refine while_st (InvFind p a b c lo hi sg H) (fun z => (z.2 - z.1).toNat) (lo, hi) ⟨none, rfl, Same.refl H, hlo, hhi, Int.le_refl _, Int.le_refl _, fun t ht => ⟨ht.1, ht.2.1⟩⟩ ?_
    rintro ⟨l, h⟩ σ H' ⟨o, rfl, sm, hl, hh, g1, g2, hall⟩
    simp only at hl hh g1 g2 hall
    walk_at "vc"
    refine ite2 (fun cc => loop_in fun N hN => ?_) (fun cc => ?_)
    · walk_at "vc"
      have hmid : l ≤ (l + h) / 2 ∧ (l + h) / 2 < h := by omega
      refine ⟨cdiv (by omega) (gr_of (by omega) (by omega)), ?_⟩
      generalize (l + h) / 2 = m at hmid
      have hm : m.natAbs ≤ E20 := by omega
      refine ⟨p, a, b, c, m, rfl, sm.seq hs, ha, hb, hc, hm, fun H2 s2 => ?_⟩
      have s12 := sm.trans s2
      have vb : (cub a b c m).natAbs ≤ (2 * E20 * E20 + E20) * E20 + E20 := by
        unfold cub
        have e1 : (m + c).natAbs ≤ 2 * E20 := by omega
        have e2 := abm e1 hm
        have e3 : ((m + c) * m + b).natAbs ≤ 2 * E20 * E20 + E20 := by omega
        have e4 := abm e3 hm
        omega
      simp
      refine ⟨cmul (gr_nat hsg (by decide +kernel)) (gr_nat vb (by decide +kernel)), ite2 (fun c2 => ?_) (fun c2 => ?_)⟩
      · refine hN (l, m) _ _ ⟨some (.int m), rfl, s12, hl, hm, g1, by simp only; omega, fun t ht => ⟨(hall t ht).1, ?_⟩⟩ (by simp only; omega)
        simp only
        apply Decidable.byContradiction; intro z
        have := ht.2.2.1 m (by omega) (by omega)
        omega
      · refine hN (m + 1, h) _ _ ⟨some (.int m), rfl, s12, by simp only; omega, hh, by simp only; omega, g2, fun t ht => ⟨?_, (hall t ht).2⟩⟩ (by simp only; omega)
        simp only
        apply Decidable.byContradiction; intro z
        have := ht.2.2.2 m (by omega) (by omega)
        omega
    · refine k l H' sm hl fun t ht => ?_
      have := hall t ht
      omega
end
end K72
set_option Elab.async false
set_option linter.all false
set_option maxRecDepth 100000
set_option maxHeartbeats 4000000
namespace K72
open PySem PySem.Spec PyProof.Rows L2
open C8 (Cal Mak pe_c pe_mk pe_gc)
local macro_rules | `(tactic| walk_at "vc") => `(tactic| simp [tSeq, tAsg, tOp, tVar, tC, tIfS, tTest, tB, tAnd, tOr, tNot, tAndV, tOrV, tNotV, rI0, rI, rU, tUn, gName, tRet, tRetN, tNext, tNever, L2.start, rEq, rNe, scal_int, tCons, tNil, tCB, tCall, tIf, tChain, tDrop, tLst, tTup, gTup, gCons, gNil, tBM, rAppend, tFor_l, tFor_t, tFor_r1, tFor_r2, cxOf_K, and_assoc, tThen, kTup, tSl, rSlL, rSlA, tFld, sFld, tMake, tNoPart, tPart, rIxL, rIxT, tCallS, tRaiseNum, tMkNum, tRevL, tLc_l, tLc_t, tLc_r1])
section
variable {P : Program} {w : World} {K : PySem.W.Frag} {mg : Str → Option Value} {base : Heap}
/-! ### _law_free: the square-free part -/
theorem scLawFree : FnScope ["d", "p"] ["d"] (defScope sLawFree) := ⟨rfl, rfl, rfl, by decide +kernel, rfl, by decide +kernel, by decide +kernel⟩
def spFree : Sp := fun vs H Q _ => ∃ d : Int, vs = [.int d] ∧ 1 ≤ d ∧ d ≤ 1000000 ∧ ∀ r, 1 ≤ r → r ≤ d → Sqf r → Q (.int r) H
/-- no square of one of these divides -/
def Fre (d p : Int) : Prop := ∀ q, 2 ≤ q → q < p → ¬ q * q ∣ d
theorem fre_sqf {d p : Int} (h1 : 1 ≤ d) (hp : 2 ≤ p) (h : Fre d p) (hb : d < p * p) : Sqf d := fun q h2 hq => by
  by_cases c : q < p
  · exact h q h2 c hq
  · have := Int.le_of_dvd (by omega) hq
    have : p * p ≤ q * q := Int.mul_le_mul (by omega) (by omega) (by omega) (by omega)
    omega
theorem ok_free {f : Addr} {fd : FuncData} (F : Fun K "_law_free" "_law_free" sLawFree f fd) (mR : mg "range" = none) (mA : mg "abs" = none) (mI : mg "int" = none) : FnOk P w K mg base CX0 1 f fd ["d"] spFree := by
  refine F.ok scLawFree (fun vs H Q E h => ?_) (fun cdv A outer s H vs Q E hr h => ?_)
  · obtain ⟨d, rfl, _⟩ := h
    rfl
  · obtain ⟨d, rfl, h1, h2, k⟩ := h
    refine ⟨_, pss_cons (ps_for PassesOwn.never rfl (pi_range2 rfl mR (pa_cons pe_int (pa_cons pe_int pa_nil))) (pg_name (i := 1) scLawFree.nd rfl (Or.inl rfl))
        (pss_cons (ps_if (pt_cmpR op_gt (pe_op op_mulW (pv 1) (pv 1)) (pe_callB call_abs (by rfl) mA (by decide +kernel) (pa_cons (pv 0) pa_nil)) (nomark _))
          (pss_one (ps_ret (pv 0)))
          pss_nil)
        (pss_one (ps_while PassesOwn.never (pt_cmpR op_eq (pe_op op_mod (pe_callTy call_int1 (by rfl) mI (by decide +kernel) (pa_cons (pv 0) pa_nil)) (pe_op op_mulW (pv 1) (pv 1))) pe_int (nomark _))
          (pss_one (ps_set (i := 0) scLawFree.nd rfl (Or.inl rfl) (pe_op op_fdivW (pv 0) (pe_op op_mulW (pv 1) (pv 1)))))))))
      (pss_one (ps_ret (pv 0))), ?_⟩
    walk_at "vc"
    refine for_r (fun i σ H' => ∃ e o, σ = [some (.int e), o] ∧ H' = H ∧ 1 ≤ e ∧ e ≤ d ∧ Fre e (2 + i)) ⟨d, none, rfl, rfl, h1, Int.le_refl _, fun q a b => by omega⟩ ?_ ?_
    · rintro i σ H' hi ⟨e, o, rfl, rfl, e1, e2, hf⟩ N hN
      walk_at "vc"
      have hi' : i < 999 := hi
      have gp : Gr (2 + (i : Int)) := gr_of (by omega) (by omega)
      have hpp : 4 ≤ (2 + (i : Int)) * (2 + i) := Int.mul_le_mul (show (2 : Int) ≤ 2 + i by omega) (show (2 : Int) ≤ 2 + i by omega) (by omega) (by omega)
      have hpp2 : (2 + (i : Int)) * (2 + i) ≤ 1001 * 1001 := Int.mul_le_mul (by omega) (by omega) (by omega) (by omega)
      refine ⟨cmul gp gp, ?_⟩
      rw [if_neg (show ¬ e < 0 by omega)]
      refine ite2 (fun c => k e e1 e2 (fre_sqf e1 (by omega) hf c)) (fun c => ?_)
      refine while_st (fun (z : Int) σ H'' => σ = [some (.int z), some (.int (2 + i))] ∧ H'' = H' ∧ 1 ≤ z ∧ z ≤ e ∧ z ∣ e) (fun z => z.toNat) e ⟨rfl, rfl, e1, Int.le_refl _, Int.dvd_refl _⟩ ?_
      rintro z σ H'' ⟨rfl, rfl, z1, z2, z3⟩
      walk_at "vc"
      generalize hpe : (2 + (i : Int)) * (2 + i) = pp at *
      refine ⟨cmul gp gp, by omega, ite2 (fun c2 => loop_in fun N2 hN2 => ?_) (fun c2 => ?_)⟩
      · walk_at "vc"
        have hd : pp ∣ z := Int.dvd_of_emod_eq_zero c2
        have e1' : pp * (z / pp) = z := Int.mul_ediv_cancel' hd
        have r1 : 1 ≤ z / pp := by
          apply Decidable.byContradiction; intro y
          have : pp * (z / pp) ≤ pp * 0 := Int.mul_le_mul_of_nonneg_left (by omega) (by omega)
          omega
        have r2 : 4 * (z / pp) ≤ pp * (z / pp) := Int.mul_le_mul_of_nonneg_right (by omega) (by omega)
        rw [hpe]
        exact ⟨cmul gp gp, cdiv (by omega) (gr_of (by omega) (by omega)), hN2 _ _ _ ⟨rfl, rfl, r1, by omega, Int.dvd_trans ⟨pp, by rw [Int.mul_comm]; exact e1'.symm⟩ z3⟩ (by omega)⟩
      · refine hN _ _ ⟨z, _, rfl, rfl, z1, by omega, fun q q1 q2 => ?_⟩
        by_cases y : q < 2 + i
        · exact fun t => hf q q1 y (Int.dvd_trans t z3)
        · have : q = 2 + i := by omega
          rw [this, hpe]
          exact fun t => c2 (Int.emod_eq_zero_of_dvd t)
    · rintro σ H' ⟨e, o, rfl, rfl, e1, e2, hf⟩
      walk_at "vc"
      exact k e e1 e2 (fre_sqf (p := 1001) e1 (by omega) hf (by omega))
/-! ### _law_bar -/
theorem scLawBar : FnScope ["d", "p"] ["d"] (defScope sLawBar) := ⟨rfl, rfl, rfl, by decide +kernel, rfl, by decide +kernel, by decide +kernel⟩
def spLbar : Sp := fun vs H Q _ => ∃ d : Int, vs = [.int d] ∧ d ≠ 0 ∧ d ≤ 1000000 ∧ (d < 0 → Q (.int (-1)) H) ∧ (0 < d → ∃ b, Sqf d ∧ BarOf d (some b) ∧ Q (.int b) H)
/-- what is left of d when its prime divisors below p, none of them 3 modulo 4, are taken out -/
structure Rest (d p e : Int) : Prop where
  pos : 1 ≤ e
  dvd : e ∣ d
  low : ∀ q, 2 ≤ q → q < p → ¬ q ∣ e
  keep : ∀ q, Pr q → q ∣ d → q % 4 = 3 → q ∣ e
theorem ok_lbar {f : Addr} {fd : FuncData} (F : Fun K "_law_bar" "_law_bar" sLawBar f fd) (mR : mg "range" = none) (mI : mg "int" = none) : FnOk P w K mg base CX0 1 f fd ["d"] spLbar := by
  refine F.ok scLawBar (fun vs H Q E h => ?_) (fun cdv A outer s H vs Q E hr h => ?_)
  · obtain ⟨d, rfl, _⟩ := h
    rfl
  · obtain ⟨d, rfl, h0, h1, k1, k2⟩ := h
    refine ⟨_, pss_cons (ps_if (pt_cmpR op_lt (pv 0) pe_int (nomark _))
        (pss_one (ps_ret (pe_un un_neg pe_int)))
        pss_nil)
      (pss_cons (ps_for PassesOwn.never rfl (pi_range2 rfl mR (pa_cons pe_int (pa_cons pe_int pa_nil))) (pg_name (i := 1) scLawBar.nd rfl (Or.inl rfl))
        (pss_one (ps_if (pt_cmpR op_eq (pe_op op_mod (pe_callTy call_int1 (by rfl) mI (by decide +kernel) (pa_cons (pv 0) pa_nil)) (pv 1)) pe_int (nomark _))
          (pss_cons (ps_if (pt_cmpR op_eq (pe_op op_mod (pe_callTy call_int1 (by rfl) mI (by decide +kernel) (pa_cons (pv 1) pa_nil)) pe_int) pe_int (nomark _))
            (pss_one (ps_ret (pv 1)))
            pss_nil)
          (pss_one (ps_set (i := 0) scLawBar.nd rfl (Or.inl rfl) (pe_op op_fdivW (pv 0) (pv 1)))))
          pss_nil)))
      (pss_one (ps_ret (pv 0)))), ?_⟩
    walk_at "vc"
    refine ite2 (fun c => k1 c) (fun c => ?_)
    obtain ⟨b, hsq, ⟨b1, b2, b3, b4⟩, hb⟩ := k2 (by omega)
    have b5 := b1.1
    refine for_r (fun i σ H' => ∃ e o, σ = [some (.int e), o] ∧ H' = H ∧ Rest d (2 + i) e) ⟨d, none, rfl, rfl, ⟨by omega, Int.dvd_refl _, fun q h1 h2 => by omega, fun q _ h _ => h⟩⟩ ?_ ?_
    · rintro i σ H' hi ⟨e, o, rfl, rfl, r⟩ N hN
      have hi' : i < 999 := hi
      have e1 := r.pos
      have e2 : e ≤ d := Int.le_of_dvd (by omega) r.dvd
      have hl := r.low
      walk_at "vc"
      generalize hp : (2 + (i : Int)) = p at *
      refine ⟨by omega, ite2 (fun c1 => ?_) (fun c1 => ?_)⟩
      · have pe : p ∣ e := Int.dvd_of_emod_eq_zero c1
        have pp : Pr p := ⟨by omega, fun m m1 m2 m3 => hl m m1 m2 (Int.dvd_trans m3 pe)⟩
        refine ite2 (fun c2 => ?_) (fun c2 => ?_)
        · have : p = b := by
            have g1 := b4 p pp (Int.dvd_trans pe r.dvd) c2
            have g2 := r.keep b b1 b2 b3
            by_cases g : b < p
            · exact absurd g2 (hl b b5 g)
            · omega
          rw [this]
          exact hb
        · obtain ⟨m, hm⟩ := pe
          have em : e / p = m := by rw [hm]; exact Int.mul_ediv_cancel_left m (by omega)
          rw [em]
          have m1 : 1 ≤ m := by
            apply Decidable.byContradiction; intro y
            have : p * m ≤ p * 0 := Int.mul_le_mul_of_nonneg_left (by omega) (by omega)
            omega
          refine ⟨cdiv (by omega) (gr_of (by omega) (by omega)), hN _ _ ⟨m, _, rfl, rfl, ⟨m1, Int.dvd_trans ⟨p, by rw [hm, Int.mul_comm]⟩ r.dvd, fun q q1 q2 q3 => ?_, fun q q1 q2 q3 => ?_⟩⟩⟩
          · by_cases y : q < p
            · exact hl q q1 y (Int.dvd_trans q3 ⟨p, by rw [hm, Int.mul_comm]⟩)
            · have : q = p := by omega
              subst this
              exact hsq q q1 (Int.dvd_trans (by rw [hm]; exact Int.mul_dvd_mul (Int.dvd_refl q) q3) r.dvd)
          · have := r.keep q q1 q2 q3
            rw [hm] at this
            rcases pr_mul q1 this with z | z
            · exact absurd q3 (by rw [pr_dvd_pr q1 pp z]; exact c2)
            · exact z
      · refine hN _ _ ⟨e, _, rfl, rfl, ⟨e1, r.dvd, fun q q1 q2 q3 => ?_, r.keep⟩⟩
        by_cases y : q < p
        · exact hl q q1 y q3
        · have : q = p := by omega
          subst this
          exact c1 (Int.emod_eq_zero_of_dvd q3)
    · rintro σ H' ⟨e, o, rfl, rfl, r⟩
      walk_at "vc"
      have e1 := r.pos
      have e2 : e ≤ d := Int.le_of_dvd (by omega) r.dvd
      have hl : ∀ q, 2 ≤ q → q < 1001 → ¬ q ∣ e := r.low
      obtain ⟨m, hm⟩ := r.keep b b1 b2 b3
      have b6 : 1001 ≤ b := by
        apply Decidable.byContradiction; intro y
        exact hl b b5 (by omega) ⟨m, hm⟩
      have m1 : 1 ≤ m := by
        apply Decidable.byContradiction; intro y
        have : b * m ≤ b * 0 := Int.mul_le_mul_of_nonneg_left (by omega) (by omega)
        omega
      have m2 : m = 1 := by
        apply Decidable.byContradiction; intro y
        have m3 : 1001 ≤ m := by
          apply Decidable.byContradiction; intro y2
          exact hl m (by omega) (by omega) ⟨b, by rw [hm, Int.mul_comm]⟩
        have : 1001 * 1001 ≤ b * m := Int.mul_le_mul b6 m3 (by omega) (by omega)
        omega
      have : e = b := by rw [hm, m2, Int.mul_one]
      rw [this]
      exact hb
end
end K72
set_option Elab.async false
set_option linter.all false
set_option maxRecDepth 100000
set_option maxHeartbeats 4000000
namespace K72
open PySem PySem.Spec PyProof.Rows L2
open C8 (Cal Mak pe_c pe_mk pe_gc)
local macro_rules | `(tactic| walk_at "vc") => `(tactic| simp [tSeq, tAsg, tOp, tVar, tC, tIfS, tTest, tB, tAnd, tOr, tNot, tAndV, tOrV, tNotV, rI0, rI, rU, tUn, gName, tRet, tRetN, tNext, tNever, L2.start, rEq, rNe, scal_int, tCons, tNil, tCB, tCall, tIf, tChain, tDrop, tLst, tTup, gTup, gCons, gNil, tBM, rAppend, tFor_l, tFor_t, tFor_r1, tFor_r2, cxOf_K, and_assoc, tThen, kTup, tSl, rSlL, rSlA, tFld, sFld, tMake, tNoPart, tPart, rIxL, rIxT, tCallS, tRaiseNum, tMkNum, tRevL, tLc_l, tLc_t, tLc_r1])
theorem cmg {i j : Int} {A B : Nat} (hi : i.natAbs ≤ A) (hj : j.natAbs ≤ B) (h1 : A < 2582249878086908589655919172003011874329705792829223512830659356540647622016841194629645353280137831435903171972747493376) (h2 : B < 2582249878086908589655919172003011874329705792829223512830659356540647622016841194629645353280137831435903171972747493376) : CMulW i j := cmul (gr_nat hi h1) (gr_nat hj h2)
section
variable {P : Program} {w : World} {K : PySem.W.Frag} {mg : Str → Option Value} {base : Heap}
theorem scLawDisc : FnScope ["f", "a", "b", "c", "told", "d", "low"] ["f"] (defScope sLawDisc) := ⟨rfl, rfl, rfl, by decide +kernel, rfl, by decide +kernel, by decide +kernel⟩
def disc3 (c b a : Int) : Int := a * a * b * b - 4 * b * b * b - 4 * a * a * a * c + 18 * a * b * c - 27 * c * c
def spDisc4 (K : PySem.W.Frag) : Sp := fun vs H Q _ => ∃ (p : Addr) (c b a : Int), vs = [.ref p] ∧ SqL K H p (cubL c b a) ∧ a.natAbs ≤ E20 ∧ b.natAbs ≤ E20 ∧ c.natAbs ≤ E20 ∧ Q (.int (disc3 c b a)) H
theorem ok_disc4 {f : Addr} {fd : FuncData} (F : Fun K "_law_disc" "_law_disc" sLawDisc f fd) (mL : mg "len" = none) : FnOk P w K mg base CX0 1 f fd ["f"] (spDisc4 K) := by
  refine F.ok scLawDisc (fun vs H Q E h => ?_) (fun cdv A outer s H vs Q E hr h => ?_)
  · obtain ⟨p, c, b, a, rfl, _⟩ := h
    rfl
  · obtain ⟨p, c, b, a, rfl, hs, ha, hb, hc, k⟩ := h
    refine ⟨_, pss_cons (ps_if (pt_cmpR op_eq (pe_callB call_len_seq (by rfl) mL PySem.boot_len (pa_cons (pv 0) pa_nil)) pe_int (nomark _)) (pss_one (ps_ret pe_int)) pss_nil)
      (pss_cons (ps_if (pt_cmpR op_eq (pe_callB call_len_seq (by rfl) mL PySem.boot_len (pa_cons (pv 0) pa_nil)) pe_int (nomark _)) (pss_one ps_never) pss_nil)
      (pss_cons (ps_set (i := 1) scLawDisc.nd rfl (Or.inl rfl) (pe_ix ix_list (pv 0) (pe_un un_neg pe_int) (fun _ _ => rfl)))
      (pss_cons (ps_set (i := 2) scLawDisc.nd rfl (Or.inl rfl) (pe_ix ix_list (pv 0) (pe_un un_neg pe_int) (fun _ _ => rfl)))
      (pss_cons (ps_set (i := 3) scLawDisc.nd rfl (Or.inl rfl) (pe_ix ix_list (pv 0) (pe_un un_neg pe_int) (fun _ _ => rfl)))
      (pss_cons (ps_if (pt_cmpR op_eq (pe_callB call_len_seq (by rfl) mL PySem.boot_len (pa_cons (pv 0) pa_nil)) pe_int (nomark _))
        (pss_cons (ps_set (i := 4) scLawDisc.nd rfl (Or.inl rfl) (pe_op op_sub (pe_op op_mulW (pe_op op_mulW (pe_op op_mulW (pv 1) (pv 1)) (pv 2)) (pv 2)) (pe_op op_mulW (pe_op op_mulW (pe_op op_mulW pe_int (pv 2)) (pv 2)) (pv 2))))
        (pss_cons (ps_set (i := 4) scLawDisc.nd rfl (Or.inl rfl) (pe_op op_sub (pv 4) (pe_op op_mulW (pe_op op_mulW (pe_op op_mulW (pe_op op_mulW pe_int (pv 1)) (pv 1)) (pv 1)) (pv 3))))
        (pss_one (ps_ret (pe_op op_sub (pe_op op_add (pv 4) (pe_op op_mulW (pe_op op_mulW (pe_op op_mulW pe_int (pv 1)) (pv 2)) (pv 3))) (pe_op op_mulW (pe_op op_mulW pe_int (pv 3)) (pv 3)))))))
        pss_nil)
      (pss_never)))))), ?_⟩
    walk_at "vc"
    refine ⟨_, Or.inl hs, ?_⟩
    rw [if_neg (by simp)]
    refine ⟨_, Or.inl hs, by simp, _, hs, _, rfl, _, hs, _, rfl, _, hs, _, rfl, _, Or.inl hs, rfl, ?_⟩
    simp
    have n4 : (4 : Int).natAbs ≤ 4 := Nat.le_refl _
    have n18 : (18 : Int).natAbs ≤ 18 := Nat.le_refl _
    have n27 : (27 : Int).natAbs ≤ 27 := Nat.le_refl _
    have a2 := abm ha ha
    have a2b := abm a2 hb
    have b4 := abm n4 hb
    have b42 := abm b4 hb
    have a4 := abm n4 ha
    have a42 := abm a4 ha
    have a43 := abm a42 ha
    have a18 := abm n18 ha
    have ab18 := abm a18 hb
    have c27 := abm n27 hc
    exact ⟨cmg ha ha (by decide +kernel) (by decide +kernel), cmg a2 hb (by decide +kernel) (by decide +kernel), cmg a2b hb (by decide +kernel) (by decide +kernel), cmg n4 hb (by decide +kernel) (by decide +kernel), cmg b4 hb (by decide +kernel) (by decide +kernel),
      cmg b42 hb (by decide +kernel) (by decide +kernel), cmg n4 ha (by decide +kernel) (by decide +kernel), cmg a4 ha (by decide +kernel) (by decide +kernel), cmg a42 ha (by decide +kernel) (by decide +kernel), cmg a43 hc (by decide +kernel) (by decide +kernel),
      cmg n18 ha (by decide +kernel) (by decide +kernel), cmg a18 hb (by decide +kernel) (by decide +kernel), cmg ab18 hc (by decide +kernel) (by decide +kernel), cmg n27 hc (by decide +kernel) (by decide +kernel), cmg c27 hc (by decide +kernel) (by decide +kernel), k⟩
/-- the quartic e + c X + b X ^ 2 + a X ^ 3 + X ^ 4, a tuple -/
def spDisc5 (K : PySem.W.Frag) : Sp := fun vs H Q _ => ∃ (p : Addr) (e c b a : Int), vs = [.ref p] ∧ SqT K H p [.int e, .int c, .int b, .int a, .int 1] ∧ a.natAbs ≤ 100000000 ∧ b.natAbs ≤ 100000000 ∧ c.natAbs ≤ 100000000 ∧ e.natAbs ≤ 1000000000000000 ∧
  (4 * b * e - a * a * e - c * c).natAbs ≤ E20 ∧ (a * c - 4 * e).natAbs ≤ E20 ∧ ∀ H', Same H H' → Q (.int (disc3 (4 * b * e - a * a * e - c * c) (a * c - 4 * e) (-b))) H'
theorem ok_disc5 {f : Addr} {fd : FuncData} (F : Fun K "_law_disc" "_law_disc" sLawDisc f fd) (G1 : Cal P w K mg base 1 "_law_disc" (spDisc4 K) []) (mL : mg "len" = none) : FnOk P w K mg base CX0 2 f fd ["f"] (spDisc5 K) := by
  refine F.ok scLawDisc (fun vs H Q E h => ?_) (fun cdv A outer s H vs Q E hr h => ?_)
  · obtain ⟨p, e, c, b, a, rfl, _⟩ := h
    rfl
  · obtain ⟨p, e, c, b, a, rfl, hs, ha, hb, hc, he, hl, hm, k⟩ := h
    refine ⟨_, pss_cons (ps_if (pt_cmpR op_eq (pe_callB call_len_seq (by rfl) mL PySem.boot_len (pa_cons (pv 0) pa_nil)) pe_int (nomark _)) (pss_one (ps_ret pe_int)) pss_nil)
      (pss_cons (ps_if (pt_cmpR op_eq (pe_callB call_len_seq (by rfl) mL PySem.boot_len (pa_cons (pv 0) pa_nil)) pe_int (nomark _)) (pss_one ps_never) pss_nil)
      (pss_cons (ps_set (i := 1) scLawDisc.nd rfl (Or.inl rfl) (pe_ix ix_tup (pv 0) (pe_un un_neg pe_int) (fun _ _ => rfl)))
      (pss_cons (ps_set (i := 2) scLawDisc.nd rfl (Or.inl rfl) (pe_ix ix_tup (pv 0) (pe_un un_neg pe_int) (fun _ _ => rfl)))
      (pss_cons (ps_set (i := 3) scLawDisc.nd rfl (Or.inl rfl) (pe_ix ix_tup (pv 0) (pe_un un_neg pe_int) (fun _ _ => rfl)))
      (pss_cons (ps_if (pt_cmpR op_eq (pe_callB call_len_seq (by rfl) mL PySem.boot_len (pa_cons (pv 0) pa_nil)) pe_int (nomark _)) pss_never pss_nil)
      (pss_cons (ps_set (i := 5) scLawDisc.nd rfl (Or.inl rfl) (pe_ix ix_tup (pv 0) pe_int (fun _ _ => rfl)))
      (pss_cons (ps_set (i := 6) scLawDisc.nd rfl (Or.inl rfl) (pe_op op_sub (pe_op op_sub (pe_op op_mulW (pe_op op_mulW pe_int (pv 2)) (pv 5)) (pe_op op_mulW (pe_op op_mulW (pv 1) (pv 1)) (pv 5))) (pe_op op_mulW (pv 3) (pv 3))))
      (pss_one (ps_ret (pe_c G1 hr (by decide) rfl (pa_cons (pe_lst (pa_cons (pv 6) (pa_cons (pe_op op_sub (pe_op op_mulW (pv 1) (pv 3)) (pe_op op_mulW pe_int (pv 5))) (pa_cons (pe_un un_neg (pv 2)) (pa_cons pe_int pa_nil))))) pa_nil))))))))))), ?_⟩
    walk_at "vc"
    refine ⟨_, Or.inr hs, ?_⟩
    rw [if_neg (by simp)]
    refine ⟨_, Or.inr hs, by simp, _, hs, _, rfl, _, hs, _, rfl, _, hs, _, rfl, _, Or.inr hs, by simp, _, hs, _, rfl, ?_⟩
    simp
    have n4 : (4 : Int).natAbs ≤ 4 := Nat.le_refl _
    have b4 := abm n4 hb
    have a2 := abm ha ha
    refine ⟨cmg n4 hb (by decide +kernel) (by decide +kernel), cmg b4 he (by decide +kernel) (by decide +kernel), cmg ha ha (by decide +kernel) (by decide +kernel), cmg a2 he (by decide +kernel) (by decide +kernel), cmg hc hc (by decide +kernel) (by decide +kernel), cmg ha hc (by decide +kernel) (by decide +kernel),
      cmg n4 he (by decide +kernel) (by decide +kernel), small_line (by decide), fun q nq => ?_⟩
    refine ⟨q, _, _, _, rfl, SqL.of upd_same, ?_, hm, hl, k _ (fun b o z => by rw [upd_ne (ne_of_none z nq)]; exact z)⟩
    have : (100000000 : Nat) ≤ E20 := by decide +kernel
    omega
end
end K72
set_option maxHeartbeats 4000000
/-! # k72: the root -2 s of the resolvent cubic, and where the bisection finds it -/
namespace K72
/-- the cubic's coefficients -/
def cA (s v : Int) : Int := -(8 * (s * s * (v * v)))
def cB (s v : Int) : Int := -(4 * (v * v * s))
def cC (s : Int) : Int := 2 * s
theorem cub_eq (s v x : Int) : cub (cA s v) (cB s v) (cC s) x = (x + 2 * s) * (x * x - 4 * (v * v * s)) := by
  unfold cub cA cB cC; grind
structure Sv (s v : Int) : Prop where
  s2 : 2 ≤ s
  sm : s ≤ 1000000
  v1 : 1 ≤ v
  vs : v * v < s
section
variable {s v S : Int}
theorem Sv.w (h : Sv s v) : 1 * s ≤ v * v * s ∧ v * v * s < s * s ∧ s * s ≤ 1000000 * s ∧ 1000000 * s ≤ 1000000000000 := by
  have h1 := h.v1
  have h2 := h.s2
  have h3 := h.vs
  have h4 := h.sm
  have g1 : 1 * 1 ≤ v * v := Int.mul_le_mul h1 h1 (by omega) (by omega)
  have g2 : 1 * s ≤ v * v * s := Int.mul_le_mul_of_nonneg_right (by omega) (by omega)
  have g3 : v * v * s < s * s := Int.mul_lt_mul_of_pos_right h3 (by omega)
  have g4 : s * s ≤ 1000000 * s := Int.mul_le_mul_of_nonneg_right h4 (by omega)
  exact ⟨g2, g3, g4, by omega⟩
theorem turn_val : cC s * cC s - 3 * cB s v = 4 * (s * s) + 12 * (v * v * s) := by unfold cC cB; grind
/-- the floor of the square root of the turn -/
theorem S_bounds (h : Sv s v) (hS : Fl (4 * (s * s) + 12 * (v * v * s)) S) : 0 ≤ S ∧ S < 4 * s := by
  obtain ⟨g1, g2, g3, g4⟩ := h.w
  refine ⟨hS.1, ?_⟩
  apply Decidable.byContradiction; intro z
  have hs := h.s2
  have : (4 * s) * (4 * s) ≤ S * S := Int.mul_le_mul (by omega) (by omega) (by omega) hS.1
  have e : (4 * s) * (4 * s) = 16 * (s * s) := by grind
  have := hS.2.1
  omega
/-- on the left of the first extremum, behind -2 s, the quadratic factor is not negative -/
theorem low_sq (h : Sv s v) (hS : Fl (4 * (s * s) + 12 * (v * v * s)) S) {x : Int} (hx : 3 * x ≤ -(2 * s) - S - 1) : 0 ≤ x * x - 4 * (v * v * s) := by
  obtain ⟨g1, g2, g3, g4⟩ := h.w
  have hs := h.s2
  have hS0 := hS.1
  have hT := hS.2.2
  generalize hw : v * v * s = w at *
  -- T = S + 1
  obtain ⟨T, hTe⟩ : ∃ T, T = S + 1 := ⟨_, rfl⟩
  rw [← hTe] at hT
  have T0 : 0 < T := by omega
  have k1 : 9 * (x * x) ≥ (2 * s + T) * (2 * s + T) := by
    have : (2 * s + T) * (2 * s + T) ≤ (-(3 * x)) * (-(3 * x)) := Int.mul_le_mul (by omega) (by omega) (by omega) (by omega)
    have e : (-(3 * x)) * (-(3 * x)) = 9 * (x * x) := by grind
    omega
  have e1 : (2 * s + T) * (2 * s + T) = 4 * (s * s) + 4 * (s * T) + T * T := by grind
  -- s T ≥ 4 w
  have k2 : 4 * w ≤ s * T := by
    apply Decidable.byContradiction; intro z
    have h1 : (s * T) * (s * T) < (4 * w) * (4 * w) := by
      have q0 : 0 ≤ s * T := Int.mul_nonneg (by omega) (by omega)
      have q1 : (s * T) * (s * T) ≤ (s * T) * (4 * w) := Int.mul_le_mul_of_nonneg_left (by omega) (by omega)
      have q2 : (s * T) * (4 * w) < (4 * w) * (4 * w) := Int.mul_lt_mul_of_pos_right (by omega) (by omega)
      omega
    have e2 : (s * T) * (s * T) = (s * s) * (T * T) := by grind
    have e3 : (4 * w) * (4 * w) = 16 * (w * w) := by grind
    have h2 : (s * s) * (4 * (s * s) + 12 * w) ≤ (s * s) * (T * T) := Int.mul_le_mul_of_nonneg_left (by omega) (by omega)
    have e4 : (s * s) * (4 * (s * s) + 12 * w) = 4 * ((s * s) * (s * s)) + 12 * ((s * s) * w) := by grind
    have h3 : w * w ≤ (s * s) * w := Int.mul_le_mul_of_nonneg_right (by omega) (by omega)
    have h4 : w * w ≤ (s * s) * (s * s) := Int.mul_le_mul (by omega) (by omega) (by omega) (by omega)
    omega
  omega
theorem turn_at (h : Sv s v) (hS : Fl (4 * (s * s) + 12 * (v * v * s)) S) {lo hi : Int} (hlo : lo ≤ -(2 * s)) (h1 : -(2 * s) ≤ hi) (h2 : 3 * hi ≤ -(2 * s) - S - 1) : TurnAt (cA s v) (cB s v) (cC s) 1 lo hi (-(2 * s)) := by
  obtain ⟨g1, g2, g3, g4⟩ := h.w
  have hs := h.s2
  refine ⟨hlo, h1, fun x x1 x2 => ?_, fun x x1 x2 => ?_⟩
  · rw [Int.one_mul, cub_eq]
    have q : (2 * s) * (2 * s) ≤ (-x) * (-x) := Int.mul_le_mul (by omega) (by omega) (by omega) (by omega)
    have e : (2 * s) * (2 * s) = 4 * (s * s) := by grind
    rw [Int.neg_mul_neg] at q
    have : 0 < (-(x + 2 * s)) * (x * x - 4 * (v * v * s)) := Int.mul_pos (by omega) (by omega)
    rw [Int.neg_mul] at this
    omega
  · rw [Int.one_mul, cub_eq]
    exact Int.mul_nonneg (by omega) (low_sq h hS (by omega))
end
end K72
set_option Elab.async false
set_option linter.all false
set_option maxRecDepth 100000
set_option maxHeartbeats 4000000
namespace K72
open PySem PySem.Spec PyProof.Rows L2
open C8 (Cal Mak pe_c pe_mk pe_gc)
local macro_rules | `(tactic| walk_at "vc") => `(tactic| simp [tSeq, tAsg, tOp, tVar, tC, tIfS, tTest, tB, tAnd, tOr, tNot, tAndV, tOrV, tNotV, rI0, rI, rU, tUn, gName, tRet, tRetN, tNext, tNever, L2.start, rEq, rNe, scal_int, tCons, tNil, tCB, tCall, tIf, tChain, tDrop, tLst, tTup, gTup, gCons, gNil, tBM, rAppend, tFor_l, tFor_t, tFor_r1, tFor_r2, cxOf_K, and_assoc, tThen, kTup, tSl, rSlL, rSlA, tFld, sFld, tMake, tNoPart, tPart, rIxL, rIxT, tCallS, tRaiseNum, tMkNum, tRevL, tLc_l, tLc_t, tLc_r1, rCat, tLstRg, tRg2])
theorem same_upd {H : Hp} {p : Addr} {o : HO} (h : H p = none) : Same H (upd H p o) := fun b u e => by
  rw [upd_ne (ne_of_none e h)]; exact e
def rgI (a b : Int) : List Int := (List.range (b - a).toNat).map fun i => a + (i : Nat)
theorem rgV_eq (a b : Int) : rgV a b = (rgI a b).map V.int := by unfold rgV rgI; rw [List.map_map]; rfl
theorem mem_rgI {a b x : Int} : x ∈ rgI a b ↔ a ≤ x ∧ x < b := by
  unfold rgI
  rw [List.mem_map]
  constructor
  · rintro ⟨i, hi, rfl⟩
    have := List.mem_range.1 hi
    omega
  · intro h
    exact ⟨(x - a).toNat, List.mem_range.2 (by omega), by omega⟩
theorem rgI_length (a b : Int) : (rgI a b).length = (b - a).toNat := by unfold rgI; rw [List.length_map, List.length_range]
section
variable {P : Program} {w : World} {K : PySem.W.Frag} {mg : Str → Option Value} {base : Heap}
abbrev nInts : List Str := ["g", "a", "end", "turn", "found", "s", "low", "next_low", "high", "next_high", "k"]
theorem scLawInts : FnScope nInts ["g"] (defScope sLawInts) := ⟨rfl, rfl, rfl, by decide +kernel, rfl, by decide +kernel, by decide +kernel⟩
def spInts (K : PySem.W.Frag) : Sp := fun vs H Q _ => ∃ (p : Addr) (s v : Int), vs = [.ref p] ∧ SqL K H p (cubL (cA s v) (cB s v) (cC s)) ∧ Sv s v ∧
  ∀ (q : Addr) (H' : Hp) (ks : List Int), Same H H' → H' q = some (.lst (ks.map V.int)) → -(2 * s) ∈ ks → (∀ k ∈ ks, k.natAbs ≤ E20) → ks.length ≤ 1000 → Q (.ref q) H'
theorem ok_ints {f : Addr} {fd : FuncData} (F : Fun K "_law_integers" "_law_integers" sLawInts f fd) (G1 : Cal P w K mg base 2 "_law_find" (spFind K) []) (G2 : Cal P w K mg base 1 "_law_root" spLroot []) (G3 : Cal P w K mg base 1 "_law_value" (spVal K) [])
    (mA : mg "abs" = none) (mL : mg "list" = none) (mR : mg "range" = none) : FnOk P w K mg base CX0 3 f fd ["g"] (spInts K) := by
  refine F.ok scLawInts (fun vs H Q E h => ?_) (fun cdv A outer s H vs Q E hr h => ?_)
  · obtain ⟨p, s, v, rfl, _⟩ := h
    rfl
  · obtain ⟨p, s, v, rfl, hs, hsv, k⟩ := h
    refine ⟨_, pss_cons (ps_set (i := 1) scLawInts.nd rfl (Or.inl rfl) (pe_ix ix_list (pv 0) pe_int (fun _ _ => rfl)))
      (pss_cons (ps_set (i := 2) scLawInts.nd rfl (Or.inl rfl) (pe_op op_add (pe_op op_add (pe_op op_add pe_int (pe_callB call_abs (by rfl) mA (by decide +kernel) (pa_cons (pv 1) pa_nil))) (pe_callB call_abs (by rfl) mA (by decide +kernel) (pa_cons (pe_ix ix_list (pv 0) pe_int (fun _ _ => rfl)) pa_nil))) (pe_callB call_abs (by rfl) mA (by decide +kernel) (pa_cons (pe_ix ix_list (pv 0) pe_int (fun _ _ => rfl)) pa_nil))))
      (pss_cons (ps_set (i := 3) scLawInts.nd rfl (Or.inl rfl) (pe_op op_sub (pe_op op_mulW (pv 1) (pv 1)) (pe_op op_mulW pe_int (pe_ix ix_list (pv 0) pe_int (fun _ _ => rfl)))))
      (pss_cons (ps_set (i := 4) scLawInts.nd rfl (Or.inl rfl) (pe_lst (pa_cons (pe_c G1 hr (by decide) rfl (pa_cons (pv 0) (pa_cons (pe_un un_neg (pv 2)) (pa_cons (pv 2) (pa_cons pe_int pa_nil))))) pa_nil)))
      (pss_cons (ps_if (pt_cmpR op_gt (pv 3) pe_int (nomark _))
        (pss_cons (ps_set (i := 5) scLawInts.nd rfl (Or.inl rfl) (pe_c G2 hr (by decide) rfl (pa_cons (pv 3) pa_nil)))
        (pss_cons (ps_set (i := 6) scLawInts.nd rfl (Or.inl rfl) (pe_op op_fdivW (pe_op op_sub (pe_op op_sub (pe_un un_neg (pv 1)) (pv 5)) pe_int) pe_int))
        (pss_cons (ps_set (i := 7) scLawInts.nd rfl (Or.inl rfl) (pe_un un_neg (pe_op op_fdivW (pe_op op_add (pv 1) (pv 5)) pe_int)))
        (pss_cons (ps_set (i := 8) scLawInts.nd rfl (Or.inl rfl) (pe_op op_fdivW (pe_op op_sub (pv 5) (pv 1)) pe_int))
        (pss_cons (ps_set (i := 9) scLawInts.nd rfl (Or.inl rfl) (pe_un un_neg (pe_op op_fdivW (pe_op op_sub (pe_op op_sub (pv 1) (pv 5)) pe_int) pe_int)))
        (pss_cons (ps_set (i := 4) scLawInts.nd rfl (Or.inl rfl) (pe_lst (pa_cons (pe_c G1 hr (by decide) rfl (pa_cons (pv 0) (pa_cons (pe_un un_neg (pv 2)) (pa_cons (pv 6) (pa_cons pe_int pa_nil))))) (pa_cons (pe_c G1 hr (by decide) rfl (pa_cons (pv 0) (pa_cons (pv 7) (pa_cons (pv 8) (pa_cons (pe_un un_neg pe_int) pa_nil))))) pa_nil))))
        (pss_cons (ps_expr (pe_bm PySem.F.plainAttrs_list PySem.F.slot_list_append PySem.F.type_list_append mt_append (pv 4) (pa_cons (pe_c G1 hr (by decide) rfl (pa_cons (pv 0) (pa_cons (pv 9) (pa_cons (pv 2) (pa_cons pe_int pa_nil))))) pa_nil)))
        (pss_cons (ps_set (i := 4) scLawInts.nd rfl (Or.inl rfl) (pe_op op_cat (pv 4) (pe_listRg rfl rfl mL (prg_2 rfl mR (pv 6) (pe_op op_add (pv 7) pe_int)))))
        (pss_one (ps_set (i := 4) scLawInts.nd rfl (Or.inl rfl) (pe_op op_cat (pv 4) (pe_listRg rfl rfl mL (prg_2 rfl mR (pv 8) (pe_op op_add (pv 9) pe_int))))))))))))))
        pss_nil)
      (pss_one (ps_ret (pe_lc (own := [("k", 10)]) (g := gName 10) rfl scLawInts.nd (pi_list (pv 4)) (blkOk_by (N := nInts) (sc := defScope sLawInts) (by decide +kernel)) (fun _ _ _ _ _ => pg_name (i := 10) scLawInts.nd rfl (Or.inl rfl))
        (fun _ _ _ _ _ => pts_one (pt_cmpR op_eq (pe_c G3 hr (by decide) rfl (pa_cons (pv 0) (pa_cons (pv 10) pa_nil))) pe_int (nomark _))) (fun _ _ _ _ _ => pv 10)))))))), ?_⟩
    walk_at "vc"
    obtain ⟨w1, w2, w3, w4⟩ := hsv.w
    have hs2 := hsv.s2
    have e20 : (E20 : Int) = 100000000000000000000 := rfl
    have evs : v * v * s = s * (v * v) := by grind
    have bA0 : s * s * (v * v) = s * (v * v * s) := by grind
    have bA1 : s * (v * v * s) ≤ 1000000 * 1000000000000 := Int.mul_le_mul hsv.sm (by omega) (by omega) (by omega)
    have bA2 : 0 ≤ s * (v * v * s) := Int.mul_nonneg (by omega) (by omega)
    have bC : (cC s).natAbs ≤ 2000000 := by unfold cC; have := hsv.sm; omega
    have bB : (cB s v).natAbs ≤ 4000000000000 := by unfold cB; omega
    have bA : (cA s v).natAbs ≤ 8000000000000000000 := by unfold cA; rw [bA0]; omega
    have nC : 0 < cC s := by unfold cC; omega
    have nB : cB s v ≤ 0 := by unfold cB; omega
    have nA : cA s v ≤ 0 := by unfold cA; rw [bA0]; omega
    have etn := turn_val (s := s) (v := v)
    have eC : cC s = 2 * s := rfl
    refine ⟨_, hs, _, rfl, _, rfl, _, hs, _, rfl, _, rfl, _, hs, _, rfl, _, rfl, _, rfl, _, rfl, cmul (gr_nat bC (by decide)) (gr_nat bC (by decide)), _, hs, _, rfl, _, rfl, cmul (gr_of (by omega) (by omega)) (gr_nat bB (by decide)), ?_⟩
    have abs_e : ∀ i : Int, (if i < 0 then -i else i) = (i.natAbs : Int) := fun i => by split <;> omega
    simp only [abs_e]
    obtain ⟨en, hen⟩ : ∃ en : Int, en = ((1 + ((cC s).natAbs : Int)) + (cB s v).natAbs) + (cA s v).natAbs := ⟨_, rfl⟩
    rw [← hen]
    have ben : en.natAbs ≤ E20 := by omega
    refine ⟨p, _, _, _, _, _, _, rfl, hs, by omega, by omega, by omega, by omega, by omega, by omega, fun r0 H0 sm0 hr0 _ => ⟨by decide, fun p0 np0 => ?_⟩⟩
    rw [if_pos (by omega)]
    refine ⟨_, rfl, by omega, by unfold big; omega, fun S hS => ?_⟩
    rw [etn] at hS
    obtain ⟨S0, S1⟩ := S_bounds hsv hS
    walk_at "vc"
    obtain ⟨lo1, hlo1⟩ : ∃ z, z = (-cC s - S - 1) / 3 := ⟨_, rfl⟩
    obtain ⟨lo2, hlo2⟩ : ∃ z, z = -((cC s + S) / 3) := ⟨_, rfl⟩
    obtain ⟨hi1, hhi1⟩ : ∃ z, z = (S - cC s) / 3 := ⟨_, rfl⟩
    obtain ⟨hi2, hhi2⟩ : ∃ z, z = -((cC s - S - 1) / 3) := ⟨_, rfl⟩
    rw [← hlo1, ← hlo2, ← hhi1, ← hhi2]
    have bs := hsv.sm
    refine ⟨cdiv (by decide) (gr_of (by decide +kernel) (by decide +kernel)), cdiv (by decide) (gr_of (by decide +kernel) (by decide +kernel)), cdiv (by decide) (gr_of (by decide +kernel) (by decide +kernel)), cdiv (by decide) (gr_of (by decide +kernel) (by decide +kernel)), ?_⟩
    refine ⟨p, _, _, _, _, _, _, rfl, (sm0.trans (same_upd np0)).seq hs, by omega, by omega, by omega, by omega, by omega, by decide, fun r1 H1 sm1 hr1 ht1 => ?_⟩
    have smA := (sm0.trans (same_upd np0)).trans sm1
    refine ⟨p, _, _, _, _, _, _, rfl, smA.seq hs, by omega, by omega, by omega, by omega, by omega, by decide, fun r2 H2 sm2 hr2 _ => ⟨by decide, fun p1 np1 => ⟨?_, ?_⟩⟩⟩
    · exact Or.inl ⟨rfl, _, SqL.of upd_same⟩
    have smB : Same H (upd H2 p1 (.lst [.int r1, .int r2])) := (smA.trans sm2).trans (same_upd np1)
    refine ⟨p, _, _, _, _, _, _, rfl, smB.seq hs, by omega, by omega, by omega, by omega, by omega, by decide, fun r3 H3 sm3 hr3 _ => ?_⟩
    have smC := smB.trans sm3
    have ep1 : H3 p1 = some (.lst [.int r1, .int r2]) := sm3 _ _ upd_same
    refine ⟨_, ep1, show 2 < sizeLine by decide, ⟨by omega, by omega, by omega, by omega, by omega⟩, fun q1 nq1 => ?_⟩
    have dq1 : q1 ≠ p1 := fun e => by subst e; rw [upd_same] at nq1; cases nq1
    refine ⟨_, (upd_ne (Ne.symm dq1)).trans upd_same, _, upd_same, ?_, fun p2 np2 => ⟨⟨by omega, by omega, by omega, by omega, by omega⟩, fun q2 nq2 => ?_⟩⟩
    · rw [rgV_length]; simp [sizeLine_eq]; omega
    have dq2 : q2 ≠ p2 := fun e => by subst e; rw [upd_same] at nq2; cases nq2
    refine ⟨_, (upd_ne (Ne.symm dq2)).trans upd_same, _, upd_same, ?_, fun p3 np3 => ⟨⟨_, SqL.of upd_same⟩, fun D nD => ?_⟩⟩
    · simp [rgV_length, sizeLine_eq]; omega
    have nH1 : H p1 = none := (smA.trans sm2).free np1
    have smE : Same H (upd (upd (upd (upd (upd H3 p1 (.lst ([.int r1, .int r2] ++ [.int r3]))) q1 (.lst (rgV lo1 (lo2 + 1)))) p2 (.lst ([.int r1, .int r2] ++ [.int r3] ++ rgV lo1 (lo2 + 1)))) q2 (.lst (rgV hi1 (hi2 + 1)))) p3 (.lst ([.int r1, .int r2] ++ [.int r3] ++ rgV lo1 (lo2 + 1) ++ rgV hi1 (hi2 + 1)))) := fun b o e => by
      have h3 := smC b o e
      have d1 : b ≠ p1 := ne_of_none e nH1
      have h4 : upd H3 p1 (.lst ([.int r1, .int r2] ++ [.int r3])) b = some o := by rw [upd_ne d1]; exact h3
      exact same_upd np3 b o (same_upd nq2 b o (same_upd np2 b o (same_upd nq1 b o h4)))
    have exs : [V.int r1, .int r2] ++ [.int r3] ++ rgV lo1 (lo2 + 1) ++ rgV hi1 (hi2 + 1) = ([r1, r2, r3] ++ rgI lo1 (lo2 + 1) ++ rgI hi1 (hi2 + 1)).map V.int := by
      rw [rgV_eq, rgV_eq]; simp
    have ezs : ∃ zs, zs = [r1, r2, r3] ++ rgI lo1 (lo2 + 1) ++ rgI hi1 (hi2 + 1) := ⟨_, rfl⟩
    obtain ⟨zs, ezs⟩ := ezs
    rw [← ezs] at exs
    have hmem : -(2 * s) ∈ zs := by
      rw [ezs]
      by_cases hc : -(2 * s) ≤ lo1
      · have := ht1 _ (turn_at hsv hS (lo := -en) (by omega) hc (by omega))
        simp [this]
      · refine List.mem_append.2 (Or.inl (List.mem_append.2 (Or.inr (mem_rgI.2 ⟨by omega, by omega⟩))))
    have hbd : ∀ z ∈ zs, z.natAbs ≤ E20 := by
      rw [ezs]
      intro z hz
      rcases List.mem_append.1 hz with hz | hz
      · rcases List.mem_append.1 hz with hz | hz
        · simp only [List.mem_cons, List.not_mem_nil, or_false] at hz
          rcases hz with rfl | rfl | rfl <;> assumption
        · have := mem_rgI.1 hz
          omega
      · have := mem_rgI.1 hz
        omega
    have hln : zs.length ≤ 1000 := by
      rw [ezs]; simp [rgI_length]; omega
    rw [exs] at smE nD ⊢
    generalize hHB : (upd (upd (upd (upd (upd H3 p1 (.lst ([.int r1, .int r2] ++ [.int r3]))) q1 (.lst (rgV lo1 (lo2 + 1)))) p2 (.lst ([.int r1, .int r2] ++ [.int r3] ++ rgV lo1 (lo2 + 1)))) q2 (.lst (rgV hi1 (hi2 + 1)))) p3 (.lst (zs.map V.int))) = HB at *
    have hB3 : HB p3 = some (.lst (zs.map V.int)) := by rw [← hHB]; exact upd_same
    refine lc_l (xs := zs.map V.int) (fun i H' => ∃ ks : List Int, Same HB H' ∧ H' D = some (.lst (ks.map V.int)) ∧ ks.length ≤ i ∧ ks = (zs.take i).filter (fun k => cub (cA s v) (cB s v) (cC s) k == 0)) ⟨[], same_upd nD, upd_same, Nat.le_refl _, by simp⟩ (fun i H' _ h => SqL.of (h.choose_spec.1 _ _ hB3)) ?_ ?_
    · rintro i x H' hi ⟨ks, sm, hD, hk, ek⟩ N hN
      rw [List.getElem?_map] at hi
      obtain ⟨z, hz, rfl⟩ : ∃ z, zs[i]? = some z ∧ V.int z = x := by
        cases h : zs[i]? with
        | none => simp [h] at hi
        | some z => exact ⟨z, rfl, by simpa [h] using hi⟩
      have hzm : z ∈ zs := List.mem_of_getElem? hz
      have etk : zs.take (i + 1) = zs.take i ++ [z] := by rw [List.take_add_one, hz]; rfl
      have hil : i < zs.length := (List.getElem?_eq_some_iff.1 hz).1
      walk_at "vc"
      refine ⟨rfl, _, rfl, _, rfl, ?_⟩
      refine ⟨p, _, _, _, _, rfl, (smE.trans sm).seq hs, by omega, by omega, by omega, hbd z hzm, fun H2 sm2 => ⟨rfl, ite2 (fun cc => ?_) (fun cc => ?_)⟩⟩
      · have cc' : cub (cA s v) (cB s v) (cC s) z = 0 := by simpa using cc
        refine ⟨_, rfl, _, sm2 _ _ hD, by simp [sizeLine_eq]; omega, hN _ ⟨ks ++ [z], ?_, ?_, by simp; omega, ?_⟩⟩
        · intro b o e
          rw [upd_ne (ne_of_none e nD)]
          exact sm2 _ _ (sm _ _ e)
        · rw [upd_same]; simp
        · rw [etk, List.filter_append, ← ek]; simp [cc']
      · have cc' : ¬ cub (cA s v) (cB s v) (cC s) z = 0 := by simpa using cc
        refine hN _ ⟨ks, sm.trans sm2, sm2 _ _ hD, by omega, ?_⟩
        rw [etk, List.filter_append, ← ek]; simp [cc']
    · rintro H' ⟨ks, sm, hD, hk, ek⟩
      rw [List.length_map, List.take_length] at ek
      rw [List.length_map] at hk
      refine k D H' ks (smE.trans sm) hD ?_ (fun z hz => ?_) (by omega)
      · rw [ek, List.mem_filter]
        refine ⟨hmem, ?_⟩
        have : cub (cA s v) (cB s v) (cC s) (-(2 * s)) = 0 := by rw [cub_eq]; grind
        simp [this]
      · rw [ek] at hz
        exact hbd z (List.mem_filter.1 hz).1
end
end K72
set_option Elab.async false
set_option linter.all false
set_option maxRecDepth 100000
set_option maxHeartbeats 4000000
namespace K72
open PySem PySem.Spec PyProof.Rows L2
open C8 (Cal Mak pe_c pe_mk pe_gc)
local macro_rules | `(tactic| walk_at "vc") => `(tactic| simp [tSeq, tAsg, tOp, tVar, tC, tIfS, tTest, tB, tAnd, tOr, tNot, tAndV, tOrV, tNotV, rI0, rI, rU, tUn, gName, tRet, tRetN, tNext, tNever, L2.start, rEq, rNe, scal_int, tCons, tNil, tCB, tCall, tIf, tChain, tDrop, tLst, tTup, gTup, gCons, gNil, tBM, rAppend, tFor_l, tFor_t, tFor_r1, tFor_r2, cxOf_K, and_assoc, tThen, kTup, tSl, rSlL, rSlA, tFld, sFld, tMake, tNoPart, tPart, rIxL, rIxT, tCallS, tRaiseNum, tMkNum, tRevL, tLc_l, tLc_t, tLc_r1, rCat, tLstRg, tRg2])
section
variable {P : Program} {w : World} {K : PySem.W.Frag} {mg : Str → Option Value} {base : Heap}
theorem kit_int_int : PySem.W.kitOne K (.type "int") (.type "int") = some true := kit_ty (by decide +kernel)
theorem kit_int_bool : PySem.W.kitOne K (.type "int") (.type "bool") = some false := kit_ty (by decide +kernel)
theorem kit_tup_tup : PySem.W.kitOne K (.type "tuple") (.type "tuple") = some true := kit_ty (by decide +kernel)
theorem kit_str_str : PySem.W.kitOne K (.type "str") (.type "str") = some true := kit_ty (by decide +kernel)
/-! ### _law_int -/
theorem scLawInt : FnScope ["x"] ["x"] (defScope sLawInt) := ⟨rfl, rfl, rfl, by decide +kernel, rfl, by decide +kernel, by decide +kernel⟩
def spLint : Sp := fun vs H Q _ => ∃ n : Int, vs = [.int n] ∧ Q (.bl true) H
theorem ok_lint {f : Addr} {fd : FuncData} (F : Fun K "_law_int" "_law_int" sLawInt f fd) (mI : mg "isinstance" = none) (mT : mg "int" = none) (mB : mg "bool" = none) : FnOk P w K mg base CX0 1 f fd ["x"] spLint := by
  refine F.ok scLawInt (fun vs H Q E h => ?_) (fun cdv A outer s H vs Q E hr h => ?_)
  · obtain ⟨n, rfl, _⟩ := h
    rfl
  · obtain ⟨n, rfl, k⟩ := h
    refine ⟨_, pss_one (ps_ret (pe_and (pe_callB call_isi (by rfl) mI PyProof.Rows.boot_isinstance (pa_cons (pv 0) (pa_cons (pe_bltn (v := .ty "int") (by rfl) mT (by decide +kernel) rfl) pa_nil))) (pe_one (pe_not (pe_callB call_isi (by rfl) mI PyProof.Rows.boot_isinstance (pa_cons (pv 0) (pa_cons (pe_bltn (v := .ty "bool") (by rfl) mB (by decide +kernel) rfl) pa_nil))))))), ?_⟩
    walk_at "vc"
    refine ⟨_, _, _, _, _, rfl, .ty "int", .base (.int n), kit_int_int, ?_⟩
    walk_at "vc"
    exact ⟨_, _, _, _, _, rfl, .ty "bool", .base (.int n), kit_int_bool, Or.inl ⟨rfl, k⟩⟩
/-! ### _law_above -/
/-- what isinstance asks of the class Poly -/
structure PolyIs (K : PySem.W.Frag) (C : Addr) : Prop where
  ha : PySem.W.findIn K (.ref C) "__class__" = some (some (.builtin "object.__class__"))
  hn : PySem.W.specialIn K (.builtin "object.__class__") "__get__" = some (some (.builtin "getset_descriptor.__get__"))
  ht : PySem.W.takesIn K (.builtin "object.__class__") = some true
  hm : PySem.W.mroIn K C (.type "object") = some true
  me : PySem.W.kitOne K (.ref C) (.ref C) = some true
theorem low_eq (s v : Int) : 4 * (-2 * s) * (v * v * s) - 0 * 0 * (v * v * s) - 0 * 0 = cA s v := by unfold cA; grind
theorem mid_eq (s v : Int) : 0 * 0 - 4 * (v * v * s) = cB s v := by unfold cB; grind
theorem top_eq (s : Int) : -(-2 * s) = cC s := by unfold cC; grind
theorem disc_eq {s v u : Int} (hu : u * u = s - v * v) : disc3 (cA s v) (cB s v) (cC s) * s = (16 * v * s * s * (u * u)) * (16 * v * s * s * (u * u)) := by
  rw [hu]; unfold disc3 cA cB cC; grind
/-- the bounds of the quartic's numbers -/
theorem Sv.cb {s v : Int} (h : Sv s v) : (cA s v).natAbs ≤ 8000000000000000000 ∧ (cB s v).natAbs ≤ 4000000000000 ∧ (cC s).natAbs ≤ 2000000 := by
  obtain ⟨w1, w2, w3, w4⟩ := h.w
  have hs2 := h.s2
  have bA0 : s * s * (v * v) = s * (v * v * s) := by grind
  have bA1 : s * (v * v * s) ≤ 1000000 * 1000000000000 := Int.mul_le_mul h.sm (by omega) (by omega) (by omega)
  have bA2 : 0 ≤ s * (v * v * s) := Int.mul_nonneg (by omega) (by omega)
  have := h.sm
  refine ⟨?_, ?_, ?_⟩
  · unfold cA; rw [bA0]; omega
  · unfold cB; omega
  · unfold cC; omega
theorem disc_fit {s v u : Int} (h : Sv s v) (hu : u * u = s - v * v) : disc3 (cA s v) (cB s v) (cC s) ≠ 0 ∧ (disc3 (cA s v) (cB s v) (cC s)).natAbs ≤ 1000000000000000000000000000000000000000000000 ∧ -big ≤ disc3 (cA s v) (cB s v) (cC s) * s ∧ disc3 (cA s v) (cB s v) (cC s) * s ≤ big := by
  have hs2 := h.s2
  have hv := h.v1
  have hvs := h.vs
  have hsm := h.sm
  have e := disc_eq hu
  have u1 : 1 ≤ u * u := by omega
  have u2 : u * u ≤ 1000000 := by have : 0 ≤ v * v := Int.mul_nonneg (by omega) (by omega); omega
  have v3 : v ≤ 1000 := by
    apply Decidable.byContradiction; intro z
    have : 1001 * 1001 ≤ v * v := Int.mul_le_mul (by omega) (by omega) (by omega) (by omega)
    omega
  have p1 : 1 ≤ 16 * v * s := by
    have : 16 * 1 ≤ 16 * v * s := Int.mul_le_mul (by omega) (by omega) (by omega) (by omega)
    omega
  have q1 : 16 * v * s ≤ 16000 * 1000000 := Int.mul_le_mul (by omega) hsm (by omega) (by omega)
  have p2 : 1 * 1 ≤ 16 * v * s * s := Int.mul_le_mul (by omega) (by omega) (by omega) (by omega)
  have q2 : 16 * v * s * s ≤ 16000 * 1000000 * 1000000 := Int.mul_le_mul q1 hsm (by omega) (by omega)
  have p3 : 1 * 1 ≤ 16 * v * s * s * (u * u) := Int.mul_le_mul (by omega) u1 (by omega) (by omega)
  have q3 : 16 * v * s * s * (u * u) ≤ 16000 * 1000000 * 1000000 * 1000000 := Int.mul_le_mul q2 u2 (by omega) (by omega)
  have p4 : 1 * 1 ≤ (16 * v * s * s * (u * u)) * (16 * v * s * s * (u * u)) := Int.mul_le_mul (by omega) (by omega) (by omega) (by omega)
  have q4 : (16 * v * s * s * (u * u)) * (16 * v * s * s * (u * u)) ≤ (16000 * 1000000 * 1000000 * 1000000) * (16000 * 1000000 * 1000000 * 1000000) := Int.mul_le_mul q3 q3 (by omega) (by omega)
  rw [← e] at p4 q4
  generalize disc3 (cA s v) (cB s v) (cC s) = D at *
  have d0 : 0 < D := by
    apply Decidable.byContradiction; intro z
    have : D * s ≤ 0 := Int.mul_nonpos_of_nonpos_of_nonneg (by omega) (by omega)
    omega
  have d1 : D * 1 ≤ D * s := Int.mul_le_mul_of_nonneg_left (by omega) (by omega)
  have eb : big = 1000000000000000000000000000000000000000000000000000000000000 := rfl
  refine ⟨by omega, by omega, by omega, by omega⟩
theorem scLawAbove : FnScope ["poly", "d", "f", "c", "disc", "a", "b", "e", "low", "cubic", "r", "number"] ["poly", "d"] (defScope sLawAbove) := ⟨rfl, rfl, rfl, by decide +kernel, rfl, by decide +kernel, by decide +kernel⟩
abbrev nAbove : List Str := ["poly", "d", "f", "c", "disc", "a", "b", "e", "low", "cubic", "r", "number"]
def spLabove (C : Addr) : Sp := fun vs H Q _ => ∃ (q : Addr) (s v u : Int), vs = [.ref q, .int s] ∧ PolyAt C H q (cyc v s) ∧ Sv s v ∧ u * u = s - v * v ∧ ∀ H', Same H H' → Q (.bl true) H'
theorem ok_labove {f C : Addr} {fd : FuncData} (F : Fun K "_law_above" "_law_above" sLawAbove f fd) (T : PolyTxt K C) (I : PolyIs K C)
    (G1 : Cal P w K mg base 1 "_law_int" spLint []) (G2 : Cal P w K mg base 2 "_law_disc" (spDisc5 K) []) (G3 : Cal P w K mg base 2 "_law_square" spLsq []) (G4 : Cal P w K mg base 3 "_law_integers" (spInts K) [])
    (gP : ∃ u, mg "Poly" = some u ∧ RelV (.ref C) u) (mI : mg "isinstance" = none) (mT : mg "tuple" = none) (mA : mg "all" = none) (mL : mg "len" = none) : FnOk P w K mg base CX0 4 f fd ["poly", "d"] (spLabove C) := by
  refine F.ok scLawAbove (fun vs H Q E h => ?_) (fun cdv A outer s0 H vs Q E hr h => ?_)
  · obtain ⟨q, s, v, u, rfl, _⟩ := h
    rfl
  · obtain ⟨q, s, v, u, rfl, hp, hsv, hu, k⟩ := h
    refine ⟨_, pss_cons (ps_if (PW.pt (pw_or (pt_not (pt_val (pe_callB call_isi (by rfl) mI PyProof.Rows.boot_isinstance (pa_cons (pv 0) (pa_cons (pe_gc rfl gP) pa_nil))))) (pw_or1 (pt_not (pt_val (pe_callB call_isi (by rfl) mI PyProof.Rows.boot_isinstance (pa_cons (pe_fld (pv 0) rfl) (pa_cons (pe_bltn (v := .ty "tuple") (by rfl) mT (by decide +kernel) rfl) pa_nil))))))))
        (pss_one (ps_ret pe_bl))
        pss_nil)
      (pss_cons (ps_set (i := 2) scLawAbove.nd rfl (Or.inl rfl) (pe_fld (pv 0) rfl))
      (pss_cons (ps_if (PW.pt (pw_or (pt_not (pt_val (pe_callB (cr_all rfl) (by rfl) mA PyProof.Rows.boot_all (pa_cons (pe_lc (own := [("c", 3)]) (g := gName 3) rfl scLawAbove.nd (pi_tup (pv 2)) (blkOk_by (N := nAbove) (sc := defScope sLawAbove) (by decide +kernel)) (fun _ _ _ _ _ => pg_name (i := 3) scLawAbove.nd rfl (Or.inl rfl)) (fun _ _ _ _ _ => pts_nil) (fun _ _ _ _ _ => pe_c G1 hr (by decide) rfl (pa_cons (pv 3) pa_nil))) pa_nil)))) (pw_or (pt_cmpR op_ne (pe_callB call_len_seq (by rfl) mL PySem.boot_len (pa_cons (pv 2) pa_nil)) pe_int (nomark _)) (pw_or1 (pt_cmpR op_ne (pe_ix ix_tup (pv 2) pe_int (fun _ _ => rfl)) pe_int (nomark _))))))
        (pss_one (ps_ret pe_bl))
        pss_nil)
      (pss_cons (ps_set (i := 4) scLawAbove.nd rfl (Or.inl rfl) (pe_c G2 hr (by decide) rfl (pa_cons (pv 2) pa_nil)))
      (pss_cons (ps_if (PW.pt (pw_or (pt_cmpR op_eq (pv 4) pe_int (nomark _)) (pw_or1 (pt_not (pt_val (pe_c G3 hr (by decide) rfl (pa_cons (pe_op op_mulW (pv 4) (pv 1)) pa_nil)))))))
        (pss_one (ps_ret pe_bl))
        pss_nil)
      (pss_cons (ps_set (i := 5) scLawAbove.nd rfl (Or.inl rfl) (pe_ix ix_tup (pv 2) pe_int (fun _ _ => rfl)))
      (pss_cons (ps_set (i := 6) scLawAbove.nd rfl (Or.inl rfl) (pe_ix ix_tup (pv 2) pe_int (fun _ _ => rfl)))
      (pss_cons (ps_set (i := 3) scLawAbove.nd rfl (Or.inl rfl) (pe_ix ix_tup (pv 2) pe_int (fun _ _ => rfl)))
      (pss_cons (ps_set (i := 7) scLawAbove.nd rfl (Or.inl rfl) (pe_ix ix_tup (pv 2) pe_int (fun _ _ => rfl)))
      (pss_cons (ps_set (i := 8) scLawAbove.nd rfl (Or.inl rfl) (pe_op op_sub (pe_op op_sub (pe_op op_mulW (pe_op op_mulW pe_int (pv 6)) (pv 7)) (pe_op op_mulW (pe_op op_mulW (pv 5) (pv 5)) (pv 7))) (pe_op op_mulW (pv 3) (pv 3))))
      (pss_cons (ps_set (i := 9) scLawAbove.nd rfl (Or.inl rfl) (pe_lst (pa_cons (pv 8) (pa_cons (pe_op op_sub (pe_op op_mulW (pv 5) (pv 3)) (pe_op op_mulW pe_int (pv 7))) (pa_cons (pe_un un_neg (pv 6)) (pa_cons pe_int pa_nil))))))
      (pss_cons (ps_for PassesOwn.never rfl (pi_list (pe_c G4 hr (by decide) rfl (pa_cons (pv 9) pa_nil))) (pg_name (i := 10) scLawAbove.nd rfl (Or.inl rfl))
        (pss_cons (ps_set (i := 11) scLawAbove.nd rfl (Or.inl rfl) (pe_op op_sub (pe_op op_mulW (pv 5) (pv 5)) (pe_op op_mulW pe_int (pe_op op_sub (pv 6) (pv 10)))))
        (pss_cons (ps_if (pt_cmpR op_eq (pv 11) pe_int (nomark _))
          (pss_one (ps_set (i := 11) scLawAbove.nd rfl (Or.inl rfl) (pe_op op_sub (pe_op op_mulW (pv 10) (pv 10)) (pe_op op_mulW pe_int (pv 7)))))
          pss_nil)
        (pss_one (ps_if (PW.pt (pw_and (pt_cmpR op_ne (pv 11) pe_int (nomark _)) (pw_and1 (pt_val (pe_c G3 hr (by decide) rfl (pa_cons (pe_op op_mulW (pv 11) (pv 1)) pa_nil))))))
          (pss_one (ps_ret pe_bl))
          pss_nil)))))
      (pss_one (ps_ret pe_bl))))))))))))), ?_⟩
    obtain ⟨dx, fs, ct, hq, hl, hct⟩ := hp
    walk_at "vc"
    refine ⟨_, _, _, _, _, rfl, .own C, .base (.ins hq T.cl I.ha I.hn I.ht I.hm), I.me, Or.inr ⟨rfl, _, _, _, hq, T.cl, T.nC, _, hl, ?_⟩⟩
    refine ⟨_, _, _, _, _, rfl, .ty "tuple", .base (.tup hct), kit_tup_tup, Or.inr ⟨rfl, _, _, _, hq, T.cl, T.nC, _, hl, _, rfl, ⟨_, SqT.of hct⟩, fun D nD => ?_⟩⟩
    refine lc_t (xs := (cyc v s).map V.int) (fun i H' => Same H H' ∧ H' D = some (.lst ((List.replicate i true).map V.bl))) ⟨same_upd nD, upd_same⟩ (fun i H' _ h => SqT.of (h.1 _ _ hct)) ?_ ?_
    · rintro i x H' hi ⟨sm, hD⟩ N hN
      rw [List.getElem?_map] at hi
      have hil : i < 5 := by
        apply Decidable.byContradiction; intro z
        rw [List.getElem?_eq_none (show (cyc v s).length ≤ i by show 5 ≤ i; omega)] at hi
        cases hi
      obtain ⟨z, rfl⟩ : ∃ z, V.int z = x := by
        cases h : (cyc v s)[i]? with
        | none => simp [h] at hi
        | some z => exact ⟨z, by simpa [h] using hi⟩
      walk_at "vc"
      refine ⟨rfl, ?_⟩
      simp [tYes]
      refine ⟨_, rfl, z, rfl, _, hD, by simp [sizeLine_eq]; omega, hN _ ⟨fun b o e => ?_, ?_⟩⟩
      · rw [upd_ne (ne_of_none e nD)]
        exact sm _ _ e
      · rw [upd_same, List.replicate_succ']; simp
    · rintro H' ⟨sm, hD⟩
      have hct' := sm _ _ hct
      obtain ⟨w1, w2, w3, w4⟩ := hsv.w
      have hs2 := hsv.s2
      have hs6 := hsv.sm
      have e20 : (E20 : Int) = 100000000000000000000 := rfl
      have eb : big = 1000000000000000000000000000000000000000000000000000000000000 := rfl
      obtain ⟨cb1, cb2, cb3⟩ := hsv.cb
      obtain ⟨f1, f2, f3, f4⟩ := disc_fit hsv hu
      refine ⟨D, List.replicate 5 true, rfl, SqL.of hD, Or.inr ⟨rfl, ct, rfl, _, Or.inr (SqT.of hct'), Or.inl ⟨rfl, ct, rfl, _, SqT.of hct', _, rfl, rfl, Or.inl ⟨rfl, ?_⟩⟩⟩⟩
      refine ⟨ct, v * v * s, 0, -2 * s, 0, rfl, SqT.of hct', by decide, by omega, by decide, by omega, by rw [low_eq]; omega, by rw [mid_eq]; omega, fun H2 sm2 => ⟨rfl, ?_⟩⟩
      rw [low_eq, mid_eq, top_eq, if_neg (by simpa using f1)]
      refine ⟨_, rfl, cmul (gr_nat f2 (by decide +kernel)) (gr_of (by omega) (by omega)), _, rfl, f3, f4, fun _ => Or.inr ⟨rfl, ?_⟩, fun no => absurd ⟨_, (disc_eq hu).symm⟩ no⟩
      have hct2 := sm2 _ _ hct'
      refine ⟨ct, rfl, _, SqT.of hct2, _, rfl, ct, rfl, _, SqT.of hct2, _, rfl, ct, rfl, _, SqT.of hct2, _, rfl, ct, rfl, _, SqT.of hct2, _, rfl, ?_⟩
      walk_at "vc"
      have g6 : ∀ {z : Int}, z.natAbs ≤ 1000000000000000000000000000000000000000000000000 → Gr z := fun h => gr_nat h (by decide +kernel)
      refine ⟨cmul (g6 (by decide)) (g6 (by omega)), cmul (g6 (by omega)) (g6 (by omega)), cmul (g6 (by decide)) (g6 (by decide)), cmul (g6 (by decide)) (g6 (by omega)), cmul (g6 (by decide)) (g6 (by decide)), cmul (g6 (by decide)) (g6 (by omega)), by decide, fun p np => ?_⟩
      have el : 4 * (-2 * s) * (v * v * s) = cA s v := by unfold cA; grind
      have em : -(4 * (v * v * s)) = cB s v := rfl
      have et : -(-2 * s) = cC s := top_eq s
      rw [el, em, et]
      refine ⟨p, s, v, rfl, SqL.of upd_same, hsv, fun qk H3 ks sm3 hk hmem hbd hln => ?_⟩
      have smA : Same H H3 := ((sm.trans sm2).trans (same_upd np)).trans sm3
      refine ⟨qk, rfl, ⟨_, SqL.of hk⟩, ?_⟩
      refine for_l (xs := ks.map V.int) (fun i σ H' => ∃ o1 o2, σ = [some (V.ref q), some (V.int s), some (V.ref ct), some (V.int 0), some (V.int (disc3 (cA s v) (cB s v) (cC s))), some (V.int 0), some (V.int (-2 * s)), some (V.int (v * v * s)), some (V.int (cA s v)), some (V.ref p), o1, o2] ∧ Same H3 H' ∧ -(2 * s) ∉ ks.take i) ⟨none, none, rfl, Same.refl _, by simp⟩ (fun i σ H' _ h => ?_) ?_ ?_
      · obtain ⟨_, _, _, h, _⟩ := h
        exact SqL.of (h _ _ hk)
      · rintro i x σ H' hi ⟨o1, o2, rfl, sm4, hno⟩ N hN
        rw [List.getElem?_map] at hi
        obtain ⟨z, hz, rfl⟩ : ∃ z, ks[i]? = some z ∧ V.int z = x := by
          cases h : ks[i]? with
          | none => simp [h] at hi
          | some z => exact ⟨z, rfl, by simpa [h] using hi⟩
        have hzb := hbd z (List.mem_of_getElem? hz)
        have etk : ks.take (i + 1) = ks.take i ++ [z] := by rw [List.take_add_one, hz]; rfl
        walk_at "vc"
        refine ⟨cmul (g6 (by decide)) (g6 (by decide)), cmul (g6 (by decide)) (g6 (by omega)), ite2 (fun cc => ?_) (fun cc => ?_)⟩
        · have ez : z = -(2 * s) := by omega
          have e1 : z * z - 4 * (v * v * s) = 4 * s * (u * u) := by rw [hu, ez]; grind
          have u1 : 1 ≤ u * u := by have := hsv.vs; omega
          have u2 : u * u ≤ 1000000 := by have : 0 ≤ v * v := Int.mul_nonneg (by have := hsv.v1; omega) (by have := hsv.v1; omega); omega
          have b1 : 8 * 1 ≤ 4 * s * (u * u) := Int.mul_le_mul (by omega) u1 (by omega) (by omega)
          have b2 : 4 * s * (u * u) ≤ 4000000 * 1000000 := Int.mul_le_mul (by omega) u2 (by omega) (by omega)
          have b3 : 0 ≤ 4 * s * (u * u) * s := Int.mul_nonneg (by omega) (by omega)
          have b4 : 4 * s * (u * u) * s ≤ 4000000 * 1000000 * 1000000 := Int.mul_le_mul b2 hs6 (by omega) (by omega)
          have sq : (2 * s * u) * (2 * s * u) = 4 * s * (u * u) * s := by grind
          refine ⟨cmul (g6 (by omega)) (g6 (by omega)), cmul (g6 (by decide)) (g6 (by omega)), Or.inr ?_⟩
          rw [e1]
          exact ⟨by omega, cmul (g6 (by omega)) (g6 (by omega)), _, rfl, by omega, by omega, fun _ => Or.inr ⟨rfl, k _ (smA.trans sm4)⟩, fun no => absurd ⟨_, sq⟩ no⟩
        · have b1 : (-(4 * (-2 * s - z)) * s).natAbs ≤ 500000000000000000000 * 1000000 := by
            rw [Int.natAbs_mul]
            exact Nat.mul_le_mul (by omega) (by omega)
          refine Or.inr ⟨by omega, cmul (g6 (by omega)) (g6 (by omega)), _, rfl, by omega, by omega, fun _ => Or.inr ⟨rfl, k _ (smA.trans sm4)⟩, fun _ => Or.inl ⟨rfl, hN _ _ ⟨_, _, rfl, sm4, ?_⟩⟩⟩
          rw [etk, List.mem_append, List.mem_singleton]
          rintro (h | h)
          · exact hno h
          · omega
      · rintro σ H' ⟨o1, o2, rfl, sm4, hno⟩
        rw [List.length_map, List.take_length] at hno
        exact absurd hmem hno
end
end K72
set_option Elab.async false
set_option linter.all false
set_option maxRecDepth 100000
set_option maxHeartbeats 4000000
namespace K72
open PySem PySem.Spec PyProof.Rows L2
open C8 (Cal Mak pe_c pe_mk pe_gc)
local macro_rules | `(tactic| walk_at "vc") => `(tactic| simp [tSeq, tAsg, tOp, tVar, tC, tIfS, tTest, tB, tAnd, tOr, tNot, tAndV, tOrV, tNotV, rI0, rI, rU, tUn, gName, tRet, tRetN, tNext, tNever, L2.start, rEq, rNe, scal_int, tCons, tNil, tCB, tCall, tIf, tChain, tDrop, tLst, tTup, gTup, gCons, gNil, tBM, rAppend, tFor_l, tFor_t, tFor_r1, tFor_r2, cxOf_K, and_assoc, tThen, kTup, tSl, rSlL, rSlA, tFld, sFld, tMake, tNoPart, tPart, rIxL, rIxT, tCallS, tRaiseNum, tMkNum, tRevL, tLc_l, tLc_t, tLc_r1, rCat, tLstRg, tRg2])
section
variable {X : Cx}
/-- isinstance(e, c), e the exception that the suite holds, with a dict or without -/
def rIsX (K : PySem.W.Frag) (a : Addr) (cls : Value) (d : Option Addr) : List V → Hp → VK → Prop := fun xs H Q => ∃ (D : Addr) (c : V) (cv : Value) (b : Bool), xs = [.ref a, c] ∧ cls = .ref D ∧ ExcC K D ∧ ClsV c cv ∧
  (d = none ∨ ∃ dd fs, d = some dd ∧ H dd = some (.xd fs)) ∧ PySem.W.kitOne K (.ref D) cv = some b ∧ Q (.bl b) H
theorem call_isX {a : Addr} {cls : Value} {d : Option Addr} {oe : Obj} {pn : List (Addr × Obj)} (hz : Zc cls d oe) (hf : ∃ vs, oe.data = .fields vs) : CallR (X.suite a ((a, oe) :: pn)) (.builtin "isinstance") (rIsX X.K a cls d) := by
  intro pins s σ H xs us Q I r h
  obtain ⟨D, c, cv, b, rfl, rfl, e, hc, hd, hk, q⟩ := h
  rcases hd with rfl | ⟨dd, fs, rfl, hx⟩
  · exact call_isE (X := X) e hz hf pins s σ H _ us Q I r ⟨c, cv, b, rfl, fun u ru => hc.eq ru, hk, q⟩
  · exact call_isD (X := X) e hz hf pins s σ H _ us Q I r ⟨c, cv, b, fs, rfl, fun u ru => hc.eq ru, hx, hk, q⟩
end
/-! ### a def that is called within an except suite; nothing is asked of the handled exception -/
structure FnZ (P : Program) (w : World) (K : PySem.W.Frag) (mg : Str → Option Value) (base : Heap) (k : Nat) (f : Addr) (fd : FuncData) (ps : List Str) (sp : Sp) : Prop where
  len : ∀ vs H Q E, sp vs H Q E → vs.length = ps.length
  run : ∀ (A : Around) (outer : List Env) (s : Shared) (H : Hp) (args : Args) (us : List Value) (vs : List V) (Q : VK) (p : Addr × Obj), L2H.RoomH k A → L2H.PinOk outer H s p → Env0 P w K mg base A outer s H → BindsTo s fd args (ps.zip us) → Vals vs us → sp vs H Q C8.E0 →
    codeAny (model P w) A (.call (.ref f) args) (CR CX0 outer P w H s Q C8.E0) s
theorem fnz_of {P : Program} {w : World} {K : PySem.W.Frag} {mg : Str → Option Value} {base : Heap} {k : Nat} {f : Addr} {name qual : Str} {params : Arguments} {body : List Stmt} {scope : Scope} {dV kV doc pm cdv ct oc : Value} {an od : Option Addr}
    {osl : Array (Option Value)} {N ps : List Str} {sp : Sp} (lk : K.lookup f = some ⟨oc, od, .func (PySem.W.fnOf name qual params body scope dV kV doc pm an cdv ct), osl⟩) (hcd : PySem.W.codeIn K cdv qual = true) (S : FnScope N ps scope)
    (len : ∀ vs H Q E, sp vs H Q E → vs.length = ps.length)
    (hbody : ∀ (A : Around) (outer : List Env) (s : Shared) (H : Hp) (vs : List V) (Q : VK) (p : Addr × Obj), sp vs H Q C8.E0 →
      ∃ t, PSs (L2H.cxH CX0 P w K mg base N qual scope f cdv A outer s H C8.E0 p) body t ∧ t { nx := fun _ H' => Q .non H', rt := Q } (L2.start N vs) H) :
    FnZ P w K mg base (k + 1) f (PySem.W.fnOf name qual params body scope dV kV doc pm an cdv ct) ps sp := by
  refine ⟨len, fun A outer s H args us vs Q p hr hpin e0 hb r hsp => ?_⟩
  have hl := len _ _ _ _ hsp
  have KX : K.In s.heap := e0.mod.kin.keeps fun b o e => (e0.bs b o e).1
  have lim : s.heap.NoLimit := e0.mod.nolimit.keeps fun b o e => (e0.bs b o e).1
  have hkind : ∀ y ∈ ps.zip us, scope.names.lookup y.1 = some .local ∨ (scope.names.lookup y.1 = some .cell ∧ ((cellsFrom (s.heap.objs.size + 1) scope.names []).lookup y.1).isSome = true) := fun ⟨n, v⟩ hy => by
    rcases S.par n (List.of_mem_zip hy).1 with q | q
    · exact .inl q
    · exact .inr ⟨q, PySem.W.cellsFrom_some _ _ _ (.inl q)⟩
  refine codeAny_call_function hr.depth (KX _ _ lk) rfl S.co S.gen rfl (PySem.W.codeRec_of KX hcd) (hb _ _ _ _ ?_)
  refine wpAny_newFunctionEnv_cells S.kind hkind fun env he s1 x => ?_
  subst he
  refine ⟨lim.keeps x.toInCall.keep, codeAny_func ?_⟩
  obtain ⟨t, ht, hq⟩ := hbody A outer s H vs Q p hsp
  have I := L2H.inv_startH (CX := CX0) (E := C8.E0) S hpin e0 hl r x
  refine wpAny_mono (ht.run [] s1 (L2.start N vs) H _ I hq) (fun fl s' hs => ?_) fun e s' hs => hs
  cases fl with
  | ret u =>
    obtain ⟨v, σ', H', J, rv, q⟩ := hs
    exact ⟨v, H', J.os, J.bare, J.base, J.hok, rv, q⟩
  | next =>
    obtain ⟨σ', H', J, q⟩ := hs
    exact ⟨V.non, H', J.os, J.bare, J.base, J.hok, rfl, q⟩
  | brk =>
    obtain ⟨_, _, _, q⟩ := hs
    exact False.elim q
  | cont =>
    obtain ⟨_, _, _, q⟩ := hs
    exact False.elim q
/-- such a def by its name -/
structure CalZ (P : Program) (w : World) (K : PySem.W.Frag) (mg : Str → Option Value) (base : Heap) (k : Nat) (x : Str) (sp : Sp) : Prop where
  ex : ∃ (f : Addr) (fd : FuncData) (ps : List Str), FnZ P w K mg base k f fd ps sp ∧ mg x = some (.ref f) ∧ PySem.W.keepIn K (.ref f) = true ∧ Binds K fd ps []
theorem pe_cZ {X : Cx} {x : Str} {k j : Nat} {sp : Sp} {q pos : Pos} {e : Expr} {es : List Expr} {t : TA} (c : CalZ X.prog X.w X.K X.mg X.base k x sp) (hr : L2H.RoomH j X.A) (hk : k ≤ j) (hpn : ∃ p, p ∈ X.pn) (hg : Gl X x)
    (hp : ∀ (σ : L2.St), PassesAt CX0 X σ C8.E0) (ha : PA X (e :: es) t) (hdb : (x == ("__debug__" : Str)) = false := by decide) (he : starEach (e :: es) X.env = (false, eval e X.env) :: starEach es X.env := by rfl) (hpl : (backTo pos (starEach es X.env)).any (·.1) = false := by rfl) :
    PE X (.Call (.Name x q) (e :: es) [] pos) (tCall sp [] C8.E0 t) := by
  obtain ⟨f, fd, ps, F, hm, kp, hb⟩ := c.ex
  obtain ⟨p, hpm⟩ := hpn
  refine ⟨fun pins s σ H Q I h => ?_⟩
  refine wpAny_Call_Name_kw (ld_glob I hg hm ?_ hdb)
  refine PySem.W.callWith_K (h₀ := X.base) I.ok.mod.kin kp (thn (ha.run pos pins s σ H _ I h) fun us s1 ⟨vs, H1, I1, r, q⟩ => ⟨I1.kIn, ?_⟩) he hpl
  have q : sp vs H1 Q C8.E0 := by simpa using q
  have hl : us.length = ps.length := by rw [← r.length]; exact F.len _ _ _ _ q
  have b := hb s1 us I1.kIn (by rw [List.append_nil]; exact hl)
  rw [List.append_nil] at b
  have P1 := I1.pin p (List.mem_append_left _ hpm)
  have hpin : L2H.PinOk X.stack H1 s1 p := ⟨P1.1, P1.2.1, fun hm => (List.mem_cons.mp (I1.stkSub p.1 hm)).elim P1.2.2.1 P1.2.2.2.1, P1.2.2.2.2⟩
  refine wpAny_call (codeAny_mono (F.run X.A X.stack s1 H1 ⟨us, []⟩ us vs Q p (hr.mono hk) hpin I1.env0 b r q) fun r s' hq => ?_)
  cases r with
  | error e => exact hp σ pins H1 s1 e s' I1 hq
  | ok fl =>
    cases fl with
    | ret u => exact I1.after hq
    | next => exact False.elim hq
    | brk => exact False.elim hq
    | cont => exact False.elim hq
/-- what is told of the two errors and of RootError -/
structure ErrIs (K : PySem.W.Frag) (mg : Str → Option Value) (CN CZ CR : Addr) : Prop where
  gR : mg "RootError" = some (.ref CR)
  exN : PySem.W.exmOne K (.ref CN) (.ref CR) = some true
  exZ : PySem.W.exmOne K (.ref CZ) (.ref CR) = some true
  cN : ExcC K CN
  cZ : ExcC K CZ
  xN : XfC K CN
  nn : PySem.W.kitOne K (.ref CN) (.ref CN) = some true
  nz : PySem.W.kitOne K (.ref CN) (.ref CZ) = some false
  zz : PySem.W.kitOne K (.ref CZ) (.ref CZ) = some true
  zn : PySem.W.kitOne K (.ref CZ) (.ref CN) = some false
section
variable {P : Program} {w : World} {K : PySem.W.Frag} {mg : Str → Option Value} {base : Heap}
/-! ### _law_told -/
theorem scLawTold : FnScope ["d", "told"] ["d"] (defScope sLawTold) := ⟨rfl, rfl, rfl, by decide +kernel, rfl, by decide +kernel, by decide +kernel⟩
def spTold : Sp := fun vs H Q _ => ∃ d : Int, vs = [.int d] ∧ -1000000 ≤ d ∧ d ≤ 1000000 ∧ d ≠ 1 ∧ Sqf d ∧ ∀ H', Same H H' → Q (.bl true) H'
theorem ok_told {f CN CZ CP : Addr} {fd : FuncData} (F : Fun K "_law_told" "_law_told" sLawTold f fd)
    (G1 : CalX P w K mg base 6 "cyclic_above" (spAbove CN CZ CP)) (G2 : Cal P w K mg base 2 "_law_two" spLtwo []) (G3 : Cal P w K mg base 4 "_law_above" (spLabove CP) []) (G4 : Cal P w K mg base 1 "_law_int" spLint []) (G5 : Cal P w K mg base 1 "_law_bar" spLbar [])
    (mI : mg "isinstance" = none) (mT : mg "tuple" = none) (mS : mg "str" = none) (mL : mg "len" = none) : FnOk P w K mg base CX0 7 f fd ["d"] spTold := by
  refine F.ok scLawTold (fun vs H Q E h => ?_) (fun cdv A outer s0 H vs Q E hr h => ?_)
  · obtain ⟨d, rfl, _⟩ := h
    rfl
  · obtain ⟨d, rfl, h0, h1, h2, hsq, k⟩ := h
    refine ⟨_, pss_cons (ps_set (i := 1) scLawTold.nd rfl (Or.inl rfl) (pe_cX0 G1 hr (by decide) rfl (pa_cons (pv 0) pa_nil)))
      (pss_cons (ps_if (PW.pt (pw_or (pt_not (pt_val (pe_callB call_isi (by rfl) mI PyProof.Rows.boot_isinstance (pa_cons (pv 1) (pa_cons (pe_bltn (v := .ty "tuple") (by rfl) mT (by decide +kernel) rfl) pa_nil))))) (pw_or1 (pt_cmpR op_ne (pe_callB call_len_seq (by rfl) mL PySem.boot_len (pa_cons (pv 1) pa_nil)) pe_int (nomark _)))))
        (pss_one (ps_ret pe_bl))
        pss_nil)
      (pss_cons (ps_if (pt_not (pt_val (pe_callB call_isi (by rfl) mI PyProof.Rows.boot_isinstance (pa_cons (pe_ix ix_tup (pv 1) pe_int (fun _ _ => rfl)) (pa_cons (pe_bltn (v := .ty "str") (by rfl) mS (by decide +kernel) rfl) pa_nil)))))
        (pss_one (ps_ret pe_bl))
        pss_nil)
      (pss_cons (ps_if (PW.pt (pw_and (pt_cmpR op_gt (pv 0) pe_int (nomark _)) (pw_and1 (pt_val (pe_c G2 hr (by decide) rfl (pa_cons (pv 0) pa_nil))))))
        (pss_one (ps_ret (pe_and (pe_cmpR op_eq (pe_ix ix_tup (pv 1) pe_int (fun _ _ => rfl)) pe_str (nomark _)) (pe_one (pe_c G3 hr (by decide) rfl (pa_cons (pe_ix ix_tup (pv 1) pe_int (fun _ _ => rfl)) (pa_cons (pv 0) pa_nil)))))))
        pss_nil)
      (pss_one (ps_ret (pe_and (pe_cmpR op_eq (pe_ix ix_tup (pv 1) pe_int (fun _ _ => rfl)) pe_str (nomark _)) (pe_and (pe_c G4 hr (by decide) rfl (pa_cons (pe_ix ix_tup (pv 1) pe_int (fun _ _ => rfl)) pa_nil)) (pe_one (pe_cmpR op_eq (pe_ix ix_tup (pv 1) pe_int (fun _ _ => rfl)) (pe_c G5 hr (by decide) rfl (pa_cons (pv 0) pa_nil)) (nomark _)))))))))), ?_⟩
    walk_at "vc"
    have d0 := hsq.ne_zero
    refine ⟨d, rfl, fun z => by omega, fun z => absurd z d0, fun _ _ _ z => by rcases z with z | z; exact absurd z h2; exact absurd hsq z, fun _ _ _ _ => ⟨?_, ?_, ?_⟩⟩
    · intro hneg t H1 sm ht
      refine ⟨_, _, _, _, _, rfl, .ty "tuple", .base (.tup ht), kit_tup_tup, Or.inr ⟨rfl, t, rfl, _, Or.inr (SqT.of ht), Or.inl ⟨rfl, t, rfl, _, SqT.of ht, _, rfl, ?_⟩⟩⟩
      refine ⟨_, _, _, _, _, rfl, .ty "str", .base (.str _), kit_str_str, Or.inr ⟨rfl, ?_⟩⟩
      rw [if_neg (by omega)]
      refine ⟨t, rfl, _, SqT.of ht, _, rfl, by decide, ?_⟩
      rw [if_pos rfl]
      refine ⟨t, rfl, _, SqT.of ht, _, rfl, -1, rfl, Or.inr ⟨rfl, t, rfl, _, SqT.of ht, _, rfl, d, rfl, d0, h1, fun _ => ⟨by decide, ?_⟩, fun z => by omega⟩⟩
      simpa using k H1 sm
    · intro hpos b t H1 sm hb ht
      refine ⟨_, _, _, _, _, rfl, .ty "tuple", .base (.tup ht), kit_tup_tup, Or.inr ⟨rfl, t, rfl, _, Or.inr (SqT.of ht), Or.inl ⟨rfl, t, rfl, _, SqT.of ht, _, rfl, ?_⟩⟩⟩
      refine ⟨_, _, _, _, _, rfl, .ty "str", .base (.str _), kit_str_str, Or.inr ⟨rfl, ?_⟩⟩
      rw [if_pos (by omega)]
      have eb : big = 1000000000000000000000000000000000000000000000000000000000000 := rfl
      refine ⟨d, rfl, by omega, by omega, fun two => absurd hb.2.2.1 ((two_iff (by omega) hsq).mp two _ hb.1 hb.2.1), fun _ => Or.inl ⟨rfl, ?_⟩⟩
      refine ⟨t, rfl, _, SqT.of ht, _, rfl, by decide, ?_⟩
      rw [if_pos rfl]
      refine ⟨t, rfl, _, SqT.of ht, _, rfl, b, rfl, Or.inr ⟨rfl, t, rfl, _, SqT.of ht, _, rfl, d, rfl, d0, h1, fun z => by omega, fun _ => ⟨b, hsq, hb, rfl, ?_⟩⟩⟩
      simpa using k H1 sm
    · intro hpos u v q t H1 sm hb he hu hv hq ht
      refine ⟨_, _, _, _, _, rfl, .ty "tuple", .base (.tup ht), kit_tup_tup, Or.inr ⟨rfl, t, rfl, _, Or.inr (SqT.of ht), Or.inl ⟨rfl, t, rfl, _, SqT.of ht, _, rfl, ?_⟩⟩⟩
      refine ⟨_, _, _, _, _, rfl, .ty "str", .base (.str _), kit_str_str, Or.inr ⟨rfl, ?_⟩⟩
      rw [if_pos (by omega)]
      have eb : big = 1000000000000000000000000000000000000000000000000000000000000 := rfl
      have two : Two d := ⟨u, v, he⟩
      refine ⟨d, rfl, by omega, by omega, fun _ => Or.inr ⟨rfl, ?_⟩, fun no => absurd two no⟩
      refine ⟨t, rfl, _, SqT.of ht, _, rfl, by decide, ?_⟩
      rw [if_pos rfl]
      have d2 : 2 ≤ d := by omega
      have nv : v ≠ 0 := fun z => by subst z; exact sqf_not_square hsq d2 (x := u) (by omega)
      have nu : u ≠ 0 := fun z => by subst z; exact sqf_not_square hsq d2 (x := v) (by omega)
      have up : 0 < u * u := Int.mul_pos (by omega) (by omega)
      refine ⟨t, rfl, _, SqT.of ht, _, rfl, q, d, v, u, rfl, hq, ⟨d2, h1, by omega, by omega⟩, by omega, fun H2 s2 => k H2 (sm.trans s2)⟩
/-! ### _law_refused -/
theorem scLawRefused : FnScope ["d", "e"] ["d"] (defScope sLawRefused) := ⟨rfl, rfl, rfl, by decide +kernel, rfl, by decide +kernel, by decide +kernel⟩
/-- d is one that the family refuses -/
def Refd (d : Int) : Prop := d < -1000000 ∨ 1000000 < d ∨ d = 0 ∨ d = 1 ∨ ¬ Sqf d
def spRefused : Sp := fun vs H Q _ => ∃ d : Int, vs = [.int d] ∧ Refd d ∧ ∀ H', Same H H' → Q (.bl true) H'
theorem ok_refused {f CN CZ CP CR fI cda cc : Addr} {fd : FuncData} (F : Fun K "_law_refused" "_law_refused" sLawRefused f fd) (T : NumTxt P K mg CN fI cda cc) (Z : ZeroTxt K mg CZ) (R : ErrIs K mg CN CZ CR)
    (G1 : CalX P w K mg base 6 "cyclic_above" (spAbove CN CZ CP)) (G4 : CalZ P w K mg base 1 "_law_int" spLint)
    (mI : mg "isinstance" = none) : FnOk P w K mg base CX0 7 f fd ["d"] spRefused := by
  refine F.ok scLawRefused (fun vs H Q E h => ?_) (fun cdv A outer s0 H vs Q E hr h => ?_)
  · obtain ⟨d, rfl, _⟩ := h
    rfl
  · obtain ⟨d, rfl, hd, k⟩ := h
    have gZ : ∃ u, mg "ZeroError" = some u ∧ L2.RelV (.ref CZ) u := ⟨_, Z.gC, rfl⟩
    have gN : ∃ u, mg "NumberError" = some u ∧ L2.RelV (.ref CN) u := ⟨_, T.gC, rfl⟩
    refine ⟨_, pss_cons (ps_try_as (i := 1) (tb := fun W => tDrop (tCallS (spAbove CN CZ CP) (WE W) (tCons (tVar 0) tNil)))
        (ts := fun a cls d => tSeq (tIfS (tB (tCB (rIsX K a cls d) (tCons (tVar 1) (tCons (tC (.ref CZ)) tNil)))) (tRet (tAndV (tOp rEq (tVar 0) (tC (.int 0))) (tNotV (tCB (rIsX K a cls d) (tCons (tVar 1) (tCons (tC (.ref CN)) tNil)))))) tNext)
          (tIfS (tB (tCB (rIsX K a cls d) (tCons (tVar 1) (tCons (tC (.ref CN)) tNil)))) (tRet (tAndV (tOp rNe (tVar 0) (tC (.int 0))) (tAndV (tCall spLint [] C8.E0 (tCons (tXf a cls d CN "number" (tVar 1)) tNil)) (tOp rEq (tXf a cls d CN "number" (tVar 1)) (tVar 0))))) tNext))
        (Wout := fun _ _ _ _ => False) rfl rfl scLawRefused.nd rfl rfl ⟨rfl, by decide, Or.inl R.gR⟩ takes0
        (fun W pn xe tk _ => pss_one (ps_expr (pe_cX G1 hr (by decide) rfl tk (pa_cons (pv 0) pa_nil))))
        (fun a oe cls d pn hz hf => pss_cons (ps_if (pt_val (pe_callB (call_isX hz hf) (by rfl) mI PyProof.Rows.boot_isinstance (pa_cons (pv 1) (pa_cons (pe_gc rfl gZ) pa_nil))))
            (pss_one (ps_ret (pe_and (pe_cmpR op_eq (pv 0) pe_int (nomark _)) (pe_one (pe_not (pe_callB (call_isX hz hf) (by rfl) mI PyProof.Rows.boot_isinstance (pa_cons (pv 1) (pa_cons (pe_gc rfl gN) pa_nil)))))))) pss_nil)
          (pss_one (ps_if (pt_val (pe_callB (call_isX hz hf) (by rfl) mI PyProof.Rows.boot_isinstance (pa_cons (pv 1) (pa_cons (pe_gc rfl gN) pa_nil))))
            (pss_one (ps_ret (pe_and (pe_cmpR op_ne (pv 0) pe_int (nomark _)) (pe_and (pe_cZ G4 (j := 6) ⟨hr.dp, hr.un⟩ (by decide) ⟨_, List.mem_cons_self⟩ rfl (fun _ _ _ _ _ _ _ h => h.elim) (pa_cons (pe_xf R.xN T.noN hz hf (pv 1)) pa_nil)) (pe_one (pe_cmpR op_eq (pe_xf R.xN T.noN hz hf (pv 1)) (pv 0) (nomark _))))))) pss_nil))))
      (pss_one (ps_ret pe_bl)), ?_⟩
    walk_at "vc"
    have hN : ∀ (x : Addr) (H' : Hp), d ≠ 0 → Same H H' → H' x = none → WE (wAs K (Value.ref CR) 1
        (fun a cls d =>
          tSeq
            (tIfS (tB (tCB (rIsX K a cls d) (tCons (tVar 1) (tCons (tC (V.ref CZ)) tNil))))
              (tRet
                (tAndV (tOp rEq (tVar 0) (tC (V.int 0)))
                  (tNotV (tCB (rIsX K a cls d) (tCons (tVar 1) (tCons (tC (V.ref CN)) tNil))))))
              tNext)
            (tIfS (tB (tCB (rIsX K a cls d) (tCons (tVar 1) (tCons (tC (V.ref CN)) tNil))))
              (tRet
                (tAndV (tOp rNe (tVar 0) (tC (V.int 0)))
                  (tAndV (tCall spLint [] C8.E0 (tCons (tXf a cls d CN (Str.ofString "number") (tVar 1)) tNil))
                    (tOp rEq (tXf a cls d CN (Str.ofString "number") (tVar 1)) (tVar 0)))))
              tNext))
        (fun x x_1 x_2 x_3 => False)
        { nx := tRet (tC (V.bl false)) { nx := fun x H' => Q V.non H', rt := Q }, rt := Q })
      [some (V.int d), none] (.ref CN) (some x) (upd H' x (numX d)) := by
      intro x H' h0 sm nx
      have s2 := sm.trans (same_upd (o := numX d) nx)
      refine ⟨true, R.exN, fun _ a na => ?_, fun z => Bool.noConfusion z⟩
      walk_at "vc"
      refine ⟨CN, .ref CZ, .ref CZ, false, rfl, rfl, R.cN, .own CZ, Or.inr ⟨x, _, rfl, upd_same⟩, R.nz, ?_⟩
      walk_at "vc"
      refine ⟨CN, .ref CN, .ref CN, true, rfl, rfl, R.cN, .own CN, Or.inr ⟨x, _, rfl, upd_same⟩, R.nn, Or.inr ⟨rfl, Or.inr ⟨h0, ?_⟩⟩⟩
      refine ⟨_, rfl, rfl, rfl, x, _, _, rfl, upd_same, rfl, d, rfl, Or.inr ⟨rfl, ?_⟩⟩
      refine ⟨_, rfl, rfl, rfl, x, _, _, rfl, upd_same, rfl, rfl, ?_⟩
      simpa using k _ s2
    refine ⟨d, rfl, fun hb x nx => hN x H (by omega) (Same.refl H) nx, fun z => ?_, fun h1 h2 h0 hn x H' sm nx => hN x H' h0 sm nx, fun h1 h2 h3 h4 => ?_⟩
    · refine ⟨true, R.exZ, fun _ a na => ?_, fun z => Bool.noConfusion z⟩
      walk_at "vc"
      refine ⟨CZ, .ref CZ, .ref CZ, true, rfl, rfl, R.cZ, .own CZ, Or.inl rfl, R.zz, Or.inr ⟨rfl, ?_⟩⟩
      rw [if_pos z]
      exact ⟨CZ, .ref CN, .ref CN, false, rfl, rfl, R.cZ, .own CN, Or.inl rfl, R.zn, Or.inl ⟨rfl, k H (Same.refl H)⟩⟩
    · exfalso
      have d0 := h4.ne_zero
      rcases hd with z | z | z | z | z
      · omega
      · omega
      · exact d0 z
      · exact h3 z
      · exact z h4
/-- _law_int, called within an except suite -/
theorem okz_lint {f : Addr} {fd : FuncData} (F : Fun K "_law_int" "_law_int" sLawInt f fd) (mI : mg "isinstance" = none) (mT : mg "int" = none) (mB : mg "bool" = none) : FnZ P w K mg base 1 f fd ["x"] spLint := by
  obtain ⟨oc, od, kV, doc, pm, an, cdv, ct, osl, rfl, lk, hcd⟩ := F.ex
  refine fnz_of lk hcd scLawInt (fun vs H Q E h => ?_) fun A outer s H vs Q p h => ?_
  · obtain ⟨n, rfl, _⟩ := h
    rfl
  · obtain ⟨n, rfl, k⟩ := h
    refine ⟨_, pss_one (ps_ret (pe_and (pe_callB call_isi (by rfl) mI PyProof.Rows.boot_isinstance (pa_cons (pv 0) (pa_cons (pe_bltn (v := .ty "int") (by rfl) mT (by decide +kernel) rfl) pa_nil))) (pe_one (pe_not (pe_callB call_isi (by rfl) mI PyProof.Rows.boot_isinstance (pa_cons (pv 0) (pa_cons (pe_bltn (v := .ty "bool") (by rfl) mB (by decide +kernel) rfl) pa_nil))))))), ?_⟩
    walk_at "vc"
    refine ⟨_, _, _, _, _, rfl, .ty "int", .base (.int n), kit_int_int, ?_⟩
    walk_at "vc"
    exact ⟨_, _, _, _, _, rfl, .ty "bool", .base (.int n), kit_int_bool, Or.inl ⟨rfl, k⟩⟩
end
end K72
set_option Elab.async false
set_option linter.all false
set_option maxRecDepth 100000
set_option maxHeartbeats 4000000
namespace K72
open PySem PySem.Spec PyProof.Rows L2
open C8 (Cal Mak pe_c pe_mk pe_gc)
local macro_rules | `(tactic| walk_at "vc") => `(tactic| simp [tSeq, tAsg, tOp, tVar, tC, tIfS, tTest, tB, tAnd, tOr, tNot, tAndV, tOrV, tNotV, rI0, rI, rU, tUn, gName, tRet, tRetN, tNext, tNever, L2.start, rEq, rNe, scal_int, tCons, tNil, tCB, tCall, tIf, tChain, tDrop, tLst, tTup, gTup, gCons, gNil, tBM, rAppend, tFor_l, tFor_t, tFor_r1, tFor_r2, cxOf_K, and_assoc, tThen, kTup, tSl, rSlL, rSlA, tFld, sFld, tMake, tNoPart, tPart, rIxL, rIxT, tCallS, tRaiseNum, tMkNum, tRevL, tLc_l, tLc_t, tLc_r1, rCat, tLstRg, tRg2])
section
variable {P : Program} {w : World} {K : PySem.W.Frag} {mg : Str → Option Value} {base : Heap}
/-! ### _law_pool -/
def ab (n : Int) : Int := if n < 0 then -n else n
theorem getI {ns : List Int} {i : Nat} {x : V} (h : (ns.map V.int)[i]? = some x) : ∃ z, ns[i]? = some z ∧ V.int z = x := by
  rw [List.getElem?_map] at h
  cases e : ns[i]? with
  | none => simp [e] at h
  | some z => exact ⟨z, rfl, by simpa [e] using h⟩
abbrev nPool : List Str := ["script", "cells", "cell", "k"]
theorem scLawPool : FnScope nPool ["script"] (defScope sLawPool) := ⟨rfl, rfl, rfl, by decide +kernel, rfl, by decide +kernel, by decide +kernel⟩
def spPool (K : PySem.W.Frag) : Sp := fun vs H Q _ => ∃ (a : Addr) (ns : List Int), vs = [.ref a] ∧ SqL K H a (ns.map V.int) ∧ ns.length ≤ 63 ∧
  ∀ (p : Addr) (ms : List Int) (H' : Hp), Same H H' → H' p = some (.lst (ms.map V.int)) → (∀ m ∈ ms, 0 ≤ m) → Q (.ref p) H'
theorem ok_pool {f : Addr} {fd : FuncData} (F : Fun K "_law_pool" "_law_pool" sLawPool f fd) (mA : mg "abs" = none) (mI : mg "int" = none) (mS : mg "sum" = none) (mR : mg "range" = none) : FnOk P w K mg base CX0 1 f fd ["script"] (spPool K) := by
  refine F.ok scLawPool (fun vs H Q E h => ?_) (fun cdv A outer s0 H vs Q E hr h => ?_)
  · obtain ⟨a, ns, rfl, _⟩ := h
    rfl
  · obtain ⟨a, ns, rfl, hs, hn, k⟩ := h
    refine ⟨_, pss_cons (ps_set (i := 1) scLawPool.nd rfl (Or.inr rfl) (pe_lc (own := [("cell", 2)]) (g := gName 2) rfl scLawPool.nd (pi_list (pv 0)) (blkOk_by (N := nPool) (sc := defScope sLawPool) (by decide +kernel)) (fun _ _ _ _ _ => pg_name (i := 2) scLawPool.nd rfl (Or.inl rfl))
          (fun _ _ _ _ _ => pts_nil) (fun _ _ _ _ _ => pe_callB call_abs (by rfl) mA PyProof.Rows.boot_abs (pa_cons (pe_callTy call_int1 (by rfl) mI PySem.Pv.boot_int (pa_cons (pv 2) pa_nil)) pa_nil))))
      (pss_one (ps_ret (pe_op op_cat (pv 1) (pe_lc (own := [("k", 3)]) (g := gName 3) rfl scLawPool.nd (pi_range1 rfl mR (pa_cons pe_int pa_nil)) (blkOk_by (N := nPool) (sc := defScope sLawPool) (by decide +kernel)) (fun _ _ _ _ _ => pg_name (i := 3) scLawPool.nd rfl (Or.inl rfl))
          (fun _ _ _ _ _ => pts_nil) (fun _ _ _ _ _ => pe_op op_add (pe_op op_add (pe_callB (show CallR _ (.builtin "sum") (rSum K) from cr_sum rfl) (by rfl) mS PyProof.Rows.boot_sum (pa_cons (pv 1) pa_nil)) (pe_op op_mulW pe_int (pv 3))) pe_int))))), ?_⟩
    walk_at "vc"
    refine ⟨⟨_, hs⟩, fun D nD => ?_⟩
    refine lc_l (xs := ns.map V.int) (fun i H' => Same H H' ∧ H' D = some (.lst (((ns.take i).map ab).map V.int))) ⟨same_upd nD, upd_same⟩ (fun i H' _ h => h.1.seq hs) ?_ ?_
    · rintro i x H' hi ⟨sm, hD⟩ N hN
      obtain ⟨z, hz, rfl⟩ := getI hi
      have etk : ns.take (i + 1) = ns.take i ++ [z] := by rw [List.take_add_one, hz]; rfl
      walk_at "vc"
      refine ⟨rfl, ?_⟩
      simp [tYes]
      refine ⟨_, rfl, Or.inl ⟨z, rfl, _, hD, ?_, hN _ ⟨fun b o e => ?_, ?_⟩⟩⟩
      · simp [sizeLine_eq]; omega
      · rw [upd_ne (ne_of_none e nD)]
        exact sm _ _ e
      · rw [upd_same, etk]; simp [ab]
    · rintro H1 ⟨sm, hD⟩ D2 nD2
      rw [List.length_map, List.take_length] at hD
      obtain ⟨S, hS⟩ : ∃ S, S = (ns.map ab).sum := ⟨_, rfl⟩
      have S0 : 0 ≤ S := by
        rw [hS]
        clear hS hD hs hn k
        induction ns with
        | nil => simp
        | cons n t ih => simp only [List.map_cons, List.sum_cons]; unfold ab at *; split <;> omega
      refine lc_r (fun i H' => Same H1 H' ∧ H' D2 = some (.lst (((List.range i).map fun j : Nat => S + 5 * (j : Int) + 3).map V.int))) ⟨same_upd nD2, upd_same⟩ ?_ ?_
      · rintro i H' hi ⟨sm2, hD2⟩ N hN
        walk_at "vc"
        refine ⟨rfl, ?_⟩
        simp [tYes]
        refine ⟨_, rfl, D, ns.map ab, rfl, SqL.of (sm2 _ _ hD), _, rfl, _, rfl, cmul (gr_of (by decide +kernel) (by decide +kernel)) (gr_of (by omega) (by omega)), _, rfl, _, hD2, ?_, hN _ ⟨fun b o e => ?_, ?_⟩⟩
        · simp [sizeLine_eq]; omega
        · rw [upd_ne (ne_of_none e nD2)]
          exact sm2 _ _ e
        · rw [upd_same, List.range_succ, ← hS]; simp
      · rintro H2 ⟨sm2, hD2⟩
        refine ⟨_, sm2 _ _ hD, _, hD2, ?_, fun p np => k p (ns.map ab ++ (List.range 40).map fun j : Nat => S + 5 * (j : Int) + 3) _ ((sm.trans sm2).trans (same_upd np)) ?_ ?_⟩
        · simp [sizeLine_eq]; omega
        · rw [upd_same, List.map_append]
        · intro m hm
          rcases List.mem_append.1 hm with hm | hm
          · obtain ⟨n, _, rfl⟩ := List.mem_map.1 hm
            unfold ab; split <;> omega
          · obtain ⟨n, _, rfl⟩ := List.mem_map.1 hm
            omega
/-! ### _law_draw -/
theorem scLawDraw : FnScope ["pool", "many", "digit"] ["pool", "many"] (defScope sLawDraw) := ⟨rfl, rfl, rfl, by decide +kernel, rfl, by decide +kernel, by decide +kernel⟩
theorem ints_lay : ∀ ns : List Int, PyData.canLayAll0 (ns.map PyData.int) = true
  | [] => by simp [PyData.canLayAll0]
  | n :: t => by simp [PyData.canLayAll0, PyData.canLay0, ints_lay t]
theorem ints_depth : ∀ ns : List Int, PyData.depthAll (ns.map PyData.int) ≤ 2
  | [] => by simp [PyData.depthAll]
  | n :: t => by
    have h1 := ints_depth t
    simp only [List.map_cons, PyData.depthAll, PyData.depth]
    omega
theorem ints_shaped (ns : List Int) : SeqAt.shaped (.list (ns.map PyData.int)) = true := by
  have h1 := ints_depth ns
  have h2 : PyData.depth (.list (ns.map PyData.int)) ≤ 64 := by
    simp only [PyData.depth]
    omega
  show (PyData.canLay0 (.list (ns.map PyData.int)) && decide (PyData.depth (.list (ns.map PyData.int)) ≤ 64)) = true
  rw [Bool.and_eq_true]
  exact ⟨by simp only [PyData.canLay0]; exact ints_lay ns, decide_eq_true h2⟩
theorem ints_dp {H : Hp} : ∀ ns : List Int, DpAll K H (ns.map V.int) (ns.map PyData.int)
  | [] => .nil
  | n :: t => .cons (.int n) (ints_dp t)
/-- all as before, but at p -/
def But (p : Addr) (H H' : Hp) : Prop := ∀ b o, b ≠ p → H b = some o → H' b = some o
def spDraw : Sp := fun vs H Q _ => ∃ (p : Addr) (ns : List Int) (m : Int), vs = [.ref p, .int m] ∧ H p = some (.lst (ns.map V.int)) ∧ (∀ n ∈ ns, 0 ≤ n) ∧ 1 ≤ m ∧ m ≤ 1000000 ∧
  ∀ (z : Int) (ns' : List Int) (H' : Hp), 0 ≤ z → z < m → But p H H' → H' p = some (.lst (ns'.map V.int)) → (∀ n ∈ ns', 0 ≤ n) → Q (.int z) H'
theorem ok_draw {f : Addr} {fd : FuncData} (F : Fun K "_law_draw" "_law_draw" sLawDraw f fd) (mI : mg "int" = none) : FnOk P w K mg base CX0 1 f fd ["pool", "many"] spDraw := by
  refine F.ok scLawDraw (fun vs H Q E h => ?_) (fun cdv A outer s0 H vs Q E hr h => ?_)
  · obtain ⟨p, ns, m, rfl, _⟩ := h
    rfl
  · obtain ⟨p, ns, m, rfl, hp, hn, h1, h2, k⟩ := h
    refine ⟨_, pss_cons (ps_if (pt_cmpR (op_eqD (Room.units hr)) (pv 0) (pe_lst pa_nil) (nomark _))
        (pss_one (ps_ret pe_int))
        pss_nil)
      (pss_cons (ps_set (i := 2) scLawDraw.nd rfl (Or.inl rfl) (pe_op op_mod (pe_callTy call_int1 (by rfl) mI PySem.Pv.boot_int (pa_cons (pe_ix ix_list (pv 0) pe_int (fun _ _ => rfl)) pa_nil)) (pv 1)))
      (pss_cons (ps_asg (pe_op op_fdiv (pe_ix ix_list (pv 0) pe_int (fun _ _ => rfl)) (pv 1)) (pg_sub (pv 0) pe_int set_list))
      (pss_cons (ps_if (pt_cmpR op_eq (pe_ix ix_list (pv 0) pe_int (fun _ _ => rfl)) pe_int (nomark _))
        (pss_one (ps_expr (pe_bm PySem.F.plainAttrs_list PySem.F.slot_list_pop PySem.F.type_list_pop mt_popAt (pv 0) (pa_cons pe_int pa_nil))))
        pss_nil)
      (pss_one (ps_ret (pv 2)))))), ?_⟩
    walk_at "vc"
    intro q nq
    have dqp : p ≠ q := ne_of_none hp nq
    have hp' : upd H q (.lst []) p = some (.lst (ns.map V.int)) := by rw [upd_ne dqp]; exact hp
    have bq : But p H (upd H q (.lst [])) := fun b o _ e => by rw [upd_ne (ne_of_none e nq)]; exact e
    refine ⟨.list (ns.map PyData.int), .list [], .lst (SqL.of hp') (ints_dp ns), .lst (SqL.of (xs := []) upd_same) .nil, ints_shaped ns, by decide +kernel, ?_⟩
    cases ns with
    | nil => exact Or.inr ⟨by decide, k 0 [] _ (Int.le_refl _) (by omega) bq hp' (by simp)⟩
    | cons n t =>
      have n0 : 0 ≤ n := hn n (List.mem_cons_self ..)
      have m0 : 0 ≤ n % m := Int.emod_nonneg _ (by omega)
      have m1 : n % m < m := Int.emod_lt_of_pos _ (by omega)
      have d0 : 0 ≤ n / m := Int.ediv_nonneg n0 (by omega)
      have e0 : ∀ n : Int, atI ((n :: t).map V.int) 0 = some (V.int n) := fun n => by unfold atI ixN; simp
      refine Or.inl ⟨by simp [PyData.eqv, PyData.eqvAll], _, SqL.of hp', .int n, e0 n, Or.inl ⟨n, rfl, by omega, _, SqL.of hp', .int n, e0 n, n, rfl, ⟨by omega, by omega⟩, ?_⟩⟩
      simp [gSub, tVar, tC]
      have e1 : ixN ((n :: t).map V.int).length 0 = some 0 := by unfold ixN; simp
      refine ⟨p, _, 0, 0, rfl, rfl, hp', e1, ?_⟩
      have es : ((n :: t).map V.int).set 0 (.int (n / m)) = ((n / m) :: t).map V.int := by simp
      rw [es]
      have bb : But p H (upd (upd H q (.lst [])) p (.lst (((n / m) :: t).map V.int))) := fun b o h e => by rw [upd_ne h]; exact bq b o h e
      walk_at "vc"
      refine ⟨_, SqL.of upd_same, .int (n / m), e0 _, rfl, ?_⟩
      refine ite2 (fun c => ?_) (fun c => ?_)
      · refine ⟨Or.inl ⟨rfl, _, SqL.of upd_same⟩, p, _, 0, 0, _, rfl, rfl, upd_same, by decide, by decide, by unfold seqIndex?; simp, rfl, ?_⟩
        refine k (n % m) t _ m0 m1 (fun b o h e => ?_) ?_ (fun x hx => hn x (List.mem_cons_of_mem _ hx))
        · rw [upd_ne h]; exact bb b o h e
        · rw [upd_same]; rfl
      · refine k (n % m) ((n / m) :: t) _ m0 m1 bb upd_same (fun x hx => ?_)
        rcases List.mem_cons.1 hx with rfl | hx
        · exact d0
        · exact hn x (List.mem_cons_of_mem _ hx)
end
end K72
set_option Elab.async false
set_option linter.all false
set_option maxRecDepth 100000
set_option maxHeartbeats 4000000
namespace K72
open PySem PySem.Spec PyProof.Rows L2
open C8 (Cal Mak pe_c pe_mk pe_gc)
local macro_rules | `(tactic| walk_at "vc") => `(tactic| simp [tSeq, tAsg, tOp, tVar, tC, tIfS, tTest, tB, tAnd, tOr, tNot, tAndV, tOrV, tNotV, rI0, rI, rU, tUn, gName, tRet, tRetN, tNext, tNever, L2.start, rEq, rNe, scal_int, tCons, tNil, tCB, tCall, tIf, tChain, tDrop, tLst, tTup, gTup, gCons, gNil, tBM, rAppend, tFor_l, tFor_t, tFor_r1, tFor_r2, cxOf_K, and_assoc, tThen, kTup, tSl, rSlL, rSlA, tFld, sFld, tMake, tNoPart, tPart, rIxL, rIxT, tCallS, tRaiseNum, tMkNum, tRevL, tLc_l, tLc_t, tLc_r1, rCat, tLstRg, tRg2])
/-! ### numbers of the law -/
theorem sqf_two : Sqf 2 := fun q h ⟨c, hc⟩ => by
  have : 2 * 2 ≤ q * q := Int.mul_le_mul h h (by omega) (by omega)
  have c0 : 0 < c := by
    apply Decidable.byContradiction; intro z
    have : q * q * c ≤ 0 := Int.mul_nonpos_of_nonneg_of_nonpos (by omega) (by omega)
    omega
  have : q * q * 1 ≤ q * q * c := Int.mul_le_mul_of_nonneg_left (by omega) (by omega)
  omega
theorem sqf_five : Sqf 5 := fun q h ⟨c, hc⟩ => by
  have h4 : 2 * 2 ≤ q * q := Int.mul_le_mul h h (by omega) (by omega)
  have c0 : 0 < c := by
    apply Decidable.byContradiction; intro z
    have : q * q * c ≤ 0 := Int.mul_nonpos_of_nonneg_of_nonpos (by omega) (by omega)
    omega
  have c1 : q * q * 1 ≤ q * q * c := Int.mul_le_mul_of_nonneg_left (by omega) (by omega)
  have q2 : q = 2 := by
    apply Decidable.byContradiction; intro z
    have : 3 * 3 ≤ q * q := Int.mul_le_mul (by omega) (by omega) (by omega) (by omega)
    omega
  subst q2
  omega
theorem pr_three : Pr 3 := ⟨by decide, fun m h1 h2 ⟨c, hc⟩ => by
  have : m = 2 := by omega
  subst this
  omega⟩
theorem sqf_three {s : Int} (hs : Sqf s) (h1 : 1 ≤ s) (ht : Two s) : Sqf (3 * s) := fun q h hd => by
  have n3 : ¬ (3 : Int) ∣ s := fun z => (two_iff h1 hs).mp ht 3 pr_three z (by decide)
  by_cases c : (3 : Int) ∣ q
  · obtain ⟨e, rfl⟩ := c
    obtain ⟨g, hg⟩ := hd
    exact n3 ⟨e * e * g, by have : 3 * s = 3 * (3 * (e * e * g)) := by rw [hg]; grind
                            omega⟩
  · have n2 : ¬ (3 : Int) ∣ q * q := fun z => (pr_mul pr_three z).elim c c
    have g1 := pr_gcd pr_three n2
    have z := Int.dvd_gcd_mul_iff_dvd_mul.mpr hd
    rw [Int.gcd_comm, g1] at z
    exact hs q h (by simpa using z)
theorem refd_sq {k n : Int} (hk : 2 ≤ k) : Refd (n * k * k) := Or.inr (Or.inr (Or.inr (Or.inr fun h => h k hk ⟨n, by grind⟩)))
theorem refd_neg {n : Int} (h : ¬ Sqf n) : Refd (-n) := Or.inr (Or.inr (Or.inr (Or.inr fun z => h (sqf_neg.mp z))))
theorem refd_far {n : Int} (h : 1000000 ≤ n) : Refd n := by
  by_cases c : n = 1000000
  · exact Or.inr (Or.inr (Or.inr (Or.inr fun z => z 1000 (by decide) ⟨1, by omega⟩)))
  · exact Or.inr (Or.inl (by omega))
theorem refd_nfar {n : Int} (h : 1000000 ≤ n) : Refd (-n) := by
  by_cases c : n = 1000000
  · exact Or.inr (Or.inr (Or.inr (Or.inr fun z => z 1000 (by decide) ⟨-1, by omega⟩)))
  · exact Or.inl (by omega)
theorem refd_of {q n : Int} (hq : 2 ≤ q) (h : q * q ∣ n) : Refd n := Or.inr (Or.inr (Or.inr (Or.inr fun z => z q hq h)))
theorem seq_at {t u : TS} {D : Ends} {σ : L2.St} {H : Hp} (h : ∀ T, T = u D → t { D with nx := T } σ H) : tSeq t u D σ H := h _ rfl
section
variable {P : Program} {w : World} {K : PySem.W.Frag} {mg : Str → Option Value} {base : Heap}
theorem scLaw : FnScope ["script", "pool", "great", "x", "y", "first", "second", "third", "fourth", "d", "k", "number", "far", "others", "at"] ["script"] (defScope sLaw) := ⟨rfl, rfl, rfl, by decide +kernel, rfl, by decide +kernel, by decide +kernel⟩
def spLaw (K : PySem.W.Frag) : Sp := fun vs H Q _ => ∃ (a : Addr) (ns : List Int), vs = [.ref a] ∧ SqL K H a (ns.map V.int) ∧ ns.length ≤ 63 ∧ ∀ H', Q (.bl true) H'
theorem ok_law {f : Addr} {fd : FuncData} (F : Fun K "law" "law" sLaw f fd) (G1 : Cal P w K mg base 1 "_law_pool" (spPool K) []) (G2 : Cal P w K mg base 1 "_law_draw" spDraw []) (G3 : Cal P w K mg base 1 "_law_free" spFree []) (G4 : Cal P w K mg base 2 "_law_two" spLtwo [])
    (G5 : Cal P w K mg base 7 "_law_told" spTold []) (G6 : Cal P w K mg base 7 "_law_refused" spRefused []) (mI : mg "int" = none) (mR : mg "range" = none) : FnOk P w K mg base CX0 8 f fd ["script"] (spLaw K) := by
  refine F.ok scLaw (fun vs H Q E h => ?_) (fun cdv A outer s0 H vs Q E hr h => ?_)
  · obtain ⟨a, ns, rfl, _⟩ := h
    rfl
  · obtain ⟨a, ns, rfl, hs, hn, k⟩ := h
    refine ⟨_, pss_cons (ps_set (i := 1) scLaw.nd rfl (Or.inl rfl) (pe_c G1 hr (by decide) rfl (pa_cons (pv 0) pa_nil)))
      (pss_cons (ps_set (i := 2) scLaw.nd rfl (Or.inl rfl) (pe_callTy call_int1 (by rfl) mI PySem.Pv.boot_int (pa_cons (pe_cmpR op_eq (pe_c G2 hr (by decide) rfl (pa_cons (pv 1) (pa_cons pe_int pa_nil))) pe_int (nomark _)) pa_nil)))
      (pss_cons (ps_set (i := 3) scLaw.nd rfl (Or.inl rfl) (pe_c G2 hr (by decide) rfl (pa_cons (pv 1) (pa_cons (pe_ix ix_list (pe_lst (pa_cons pe_int (pa_cons pe_int pa_nil))) (pv 2) (fun _ _ => rfl)) pa_nil))))
      (pss_cons (ps_set (i := 4) scLaw.nd rfl (Or.inl rfl) (pe_c G2 hr (by decide) rfl (pa_cons (pv 1) (pa_cons (pe_ix ix_list (pe_lst (pa_cons pe_int (pa_cons pe_int pa_nil))) (pv 2) (fun _ _ => rfl)) pa_nil))))
      (pss_cons (ps_if (pt_cmpR op_eq (pe_op op_add (pv 3) (pv 4)) pe_int (nomark _))
        (pss_one (ps_set (i := 4) scLaw.nd rfl (Or.inl rfl) pe_int))
        pss_nil)
      (pss_cons (ps_set (i := 5) scLaw.nd rfl (Or.inl rfl) (pe_c G3 hr (by decide) rfl (pa_cons (pe_op op_add (pe_op op_mulW (pv 3) (pv 3)) (pe_op op_mulW (pv 4) (pv 4))) pa_nil)))
      (pss_cons (ps_if (pt_cmpR op_eq (pv 5) pe_int (nomark _))
        (pss_one (ps_set (i := 5) scLaw.nd rfl (Or.inl rfl) pe_int))
        pss_nil)
      (pss_cons (ps_set (i := 6) scLaw.nd rfl (Or.inl rfl) (pe_c G3 hr (by decide) rfl (pa_cons (pe_op op_add pe_int (pe_c G2 hr (by decide) rfl (pa_cons (pv 1) (pa_cons (pe_ix ix_list (pe_lst (pa_cons pe_int (pa_cons (pe_op op_pow pe_int pe_int) pa_nil))) (pv 2) (fun _ _ => rfl)) pa_nil)))) pa_nil)))
      (pss_cons (ps_if (pt_val (pe_c G4 hr (by decide) rfl (pa_cons (pv 6) pa_nil)))
        (pss_one (ps_set (i := 6) scLaw.nd rfl (Or.inl rfl) (pe_op op_mulW pe_int (pv 6))))
        pss_nil)
      (pss_cons (ps_set (i := 7) scLaw.nd rfl (Or.inl rfl) (pe_un un_neg (pe_c G3 hr (by decide) rfl (pa_cons (pe_op op_add pe_int (pe_c G2 hr (by decide) rfl (pa_cons (pv 1) (pa_cons (pe_ix ix_list (pe_lst (pa_cons pe_int (pa_cons (pe_op op_pow pe_int pe_int) pa_nil))) (pv 2) (fun _ _ => rfl)) pa_nil)))) pa_nil))))
      (pss_cons (ps_set (i := 8) scLaw.nd rfl (Or.inl rfl) (pe_c G3 hr (by decide) rfl (pa_cons (pe_op op_add pe_int (pe_c G2 hr (by decide) rfl (pa_cons (pv 1) (pa_cons (pe_ix ix_list (pe_lst (pa_cons pe_int (pa_cons (pe_op op_sub (pe_op op_pow pe_int pe_int) pe_int) pa_nil))) (pv 2) (fun _ _ => rfl)) pa_nil)))) pa_nil)))
      (pss_cons (ps_if (pt_cmpR op_eq (pv 8) pe_int (nomark _))
        (pss_one (ps_set (i := 8) scLaw.nd rfl (Or.inl rfl) pe_int))
        pss_nil)
      (pss_cons (ps_for PassesOwn.never rfl (pi_tup (pe_tup (pa_cons (pv 5) (pa_cons (pv 6) (pa_cons (pv 7) (pa_cons (pv 8) (pa_cons (pv 5) pa_nil))))))) (pg_name (i := 9) scLaw.nd rfl (Or.inl rfl))
        (pss_one (ps_if (pt_not (pt_val (pe_c G5 hr (by decide) rfl (pa_cons (pv 9) pa_nil))))
          (pss_one (ps_ret pe_bl))
          pss_nil)))
      (pss_cons (ps_set (i := 10) scLaw.nd rfl (Or.inl rfl) (pe_op op_add pe_int (pe_c G2 hr (by decide) rfl (pa_cons (pv 1) (pa_cons pe_int pa_nil)))))
      (pss_cons (ps_set (i := 11) scLaw.nd rfl (Or.inl rfl) (pe_op op_mulW (pe_op op_mulW (pe_op op_add pe_int (pe_c G2 hr (by decide) rfl (pa_cons (pv 1) (pa_cons pe_int pa_nil)))) (pv 10)) (pv 10)))
      (pss_cons (ps_set (i := 12) scLaw.nd rfl (Or.inl rfl) (pe_op op_add (pe_op op_pow pe_int pe_int) (pe_c G2 hr (by decide) rfl (pa_cons (pv 1) (pa_cons pe_int pa_nil)))))
      (pss_cons (ps_set (i := 13) scLaw.nd rfl (Or.inl rfl) (pe_lst (pa_cons pe_int (pa_cons (pv 11) (pa_cons (pe_un un_neg (pv 11)) (pa_cons (pv 12) (pa_cons (pe_un un_neg (pv 12)) (pa_cons (pe_op op_mulW pe_int (pv 5)) (pa_cons (pe_op op_mulW pe_int (pv 7)) (pa_cons pe_int (pa_cons pe_int (pa_cons (pe_un un_neg pe_int) pa_nil))))))))))))
      (pss_cons (ps_for PassesOwn.never rfl (pi_range1 rfl mR (pa_cons pe_int pa_nil)) (pg_name (i := 14) scLaw.nd rfl (Or.inl rfl))
        (pss_one (ps_if (pt_not (pt_val (pe_c G6 hr (by decide) rfl (pa_cons (pe_ix ix_list (pv 13) (pe_c G2 hr (by decide) rfl (pa_cons (pv 1) (pa_cons pe_int pa_nil))) (fun _ _ => rfl)) pa_nil))))
          (pss_one (ps_ret pe_bl))
          pss_nil)))
      (pss_one (ps_ret (pe_and (pe_c G6 hr (by decide) rfl (pa_cons pe_int pa_nil)) (pe_and (pe_c G6 hr (by decide) rfl (pa_cons pe_int pa_nil)) (pe_one (pe_c G6 hr (by decide) rfl (pa_cons (pe_op op_mulW (pv 5) (pv 5)) pa_nil)))))))))))))))))))))))), ?_⟩
    refine seq_at fun T1 h1 => ?_
    walk_at "vc"
    refine ⟨a, ns, rfl, hs, hn, fun p ms0 H0 _ hp0 hm0 => ?_⟩
    subst h1
    refine seq_at fun T1 h1 => ?_
    walk_at "vc"
    refine ⟨p, ms0, 4, rfl, hp0, hm0, by decide, by decide, fun z0 ms1 H1 _ _ _ hp1 hm1 => ?_⟩
    clear hp0 hm0
    simp
    refine ⟨rfl, ?_⟩
    obtain ⟨g, hgz, hg⟩ : ∃ g : Int, g = (if z0 = 1 then 1 else 0) ∧ (g = 0 ∨ g = 1) := ⟨_, rfl, by split <;> simp⟩
    rw [← hgz]
    clear hgz
    have ix2 : ∀ u v : Int, ∃ m, atI [V.int u, .int v] g = some (.int m) ∧ (m = u ∨ m = v) := fun u v => by
      rcases hg with rfl | rfl
      · exact ⟨u, rfl, Or.inl rfl⟩
      · exact ⟨v, rfl, Or.inr rfl⟩
    subst h1
    refine seq_at fun T1 h1 => ?_
    walk_at "vc"
    obtain ⟨mx, emx, bmx⟩ := ix2 30 701
    refine ⟨by decide, fun q nq => ⟨_, SqL.of upd_same, _, emx, p, ms1, mx, rfl, (upd_ne (ne_of_none hp1 nq)).trans hp1, hm1, by omega, by omega, fun x ms2 H2 x0 x1 _ hp2 hm2 => ?_⟩⟩
    subst h1
    clear nq hp1 hm1
    refine seq_at fun T1 h1 => ?_
    walk_at "vc"
    refine ⟨by decide, fun q nq => ⟨_, SqL.of upd_same, _, emx, p, ms2, mx, rfl, (upd_ne (ne_of_none hp2 nq)).trans hp2, hm2, by omega, by omega, fun y0 ms3 H3 y1 y2 _ hp3 hm3 => ?_⟩⟩
    subst h1
    clear nq hp2 hm2
    refine seq_at fun T1 h1 => ?_
    have go : ∀ y : Int, 0 ≤ y → y ≤ 700 → 1 ≤ x + y → T1 [some (V.ref a), some (V.ref p), some (V.int g), some (V.int x), some (V.int y), none, none, none, none, none, none, none, none, none, none] H3 := by
      intro y y0' y1' xy
      subst h1
      refine seq_at fun T1 h1 => ?_
      have bx : x * x ≤ 700 * 700 := Int.mul_le_mul (by omega) (by omega) (by omega) (by omega)
      have by' : y * y ≤ 700 * 700 := Int.mul_le_mul (by omega) (by omega) (by omega) (by omega)
      have bx0 : 0 ≤ x * x := Int.mul_nonneg (by omega) (by omega)
      have by0 : 0 ≤ y * y := Int.mul_nonneg (by omega) (by omega)
      have bxy : 1 ≤ x * x + y * y := by
        apply Decidable.byContradiction; intro z
        rcases (by omega : 1 ≤ x ∨ 1 ≤ y) with h | h
        · have : 1 * 1 ≤ x * x := Int.mul_le_mul h h (by omega) (by omega)
          omega
        · have : 1 * 1 ≤ y * y := Int.mul_le_mul h h (by omega) (by omega)
          omega
      walk_at "vc"
      refine ⟨cmul (gr_of (by omega) (by omega)) (gr_of (by omega) (by omega)), cmul (gr_of (by omega) (by omega)) (gr_of (by omega) (by omega)), x * x + y * y, rfl, bxy, by omega, fun r r1 r2 rs => ?_⟩
      subst h1
      refine seq_at fun T1 h1 => ?_
      have go : ∀ d1 : Int, 2 ≤ d1 → d1 ≤ 1000000 → Sqf d1 → T1 [some (V.ref a), some (V.ref p), some (V.int g), some (V.int x), some (V.int y), some (V.int d1), none, none, none, none, none, none, none, none, none] H3 := by
        intro d1 d1a d1b d1s
        clear bx by' bx0 by0 bxy r1 r2 rs
        subst h1
        refine seq_at fun T1 h1 => ?_
        walk_at "vc"
        obtain ⟨m2, em2, bm2⟩ := ix2 30 100000
        refine ⟨⟨by decide, by decide, by decide⟩, by decide, fun q nq => ⟨_, SqL.of upd_same, _, em2, p, ms3, m2, rfl, (upd_ne (ne_of_none hp3 nq)).trans hp3, hm3, by omega, by omega, fun z ms4 H4 z0 z1 _ hp4 hm4 => ⟨z, rfl, 1 + z, rfl, by omega, by omega, fun r r1 r2 rs => ?_⟩⟩⟩
        subst h1
        clear nq hp3 hm3
        refine seq_at fun T1 h1 => ?_
        have go : ∀ d2 : Int, 2 ≤ d2 → d2 ≤ 300000 → Sqf d2 → T1 [some (V.ref a), some (V.ref p), some (V.int g), some (V.int x), some (V.int y), some (V.int d1), some (V.int d2), none, none, none, none, none, none, none, none] H4 := by
          intro d2 d2a d2b d2s
          clear z0 z1 r1 r2 rs
          subst h1
          refine seq_at fun T1 h1 => ?_
          walk_at "vc"
          refine ⟨⟨by decide, by decide, by decide⟩, by decide, fun q nq => ⟨_, SqL.of upd_same, _, em2, p, ms4, m2, rfl, (upd_ne (ne_of_none hp4 nq)).trans hp4, hm4, by omega, by omega, fun z ms5 H5 z0 z1 _ hp5 hm5 => ⟨z, rfl, 1 + z, rfl, by omega, by omega, fun d3 d3a d3b d3s => ?_⟩⟩⟩
          simp
          subst h1
          clear nq hp4 hm4
          refine seq_at fun T1 h1 => ?_
          obtain ⟨m4, em4, bm4⟩ := ix2 198 999999
          walk_at "vc"
          refine ⟨⟨by decide, by decide, by decide⟩, by decide, fun q nq => ⟨_, SqL.of upd_same, _, em4, p, ms5, m4, rfl, (upd_ne (ne_of_none hp5 nq)).trans hp5, hm5, by omega, by omega, fun z' ms6 H6 z0' z1' _ hp6 hm6 => ⟨z', rfl, 2 + z', rfl, by omega, by omega, fun r r1 r2 rs => ?_⟩⟩⟩
          subst h1
          clear nq hp5 hm5
          refine seq_at fun T1 h1 => ?_
          have go : ∀ d4 : Int, 2 ≤ d4 → d4 ≤ 1000000 → Sqf d4 → T1 [some (V.ref a), some (V.ref p), some (V.int g), some (V.int x), some (V.int y), some (V.int d1), some (V.int d2), some (V.int (-d3)), some (V.int d4), none, none, none, none, none, none] H6 := by
            intro d4 d4a d4b d4s
            have d3c : d3 ≤ 1000000 := by omega
            clear r1 r2 rs z0' z1' z0 z1
            subst h1
            refine seq_at fun T1 h1 => ?_
            walk_at "vc"
            refine ⟨by decide, fun q nq => ⟨⟨_, SqT.of upd_same⟩, ?_⟩⟩
            have hds : ∀ d ∈ [d1, d2, -d3, d4, d1], -1000000 ≤ d ∧ d ≤ 1000000 ∧ d ≠ 1 ∧ Sqf d := by
              intro d hd
              simp only [List.mem_cons, List.not_mem_nil, or_false] at hd
              rcases hd with rfl | rfl | rfl | rfl | rfl
              · exact ⟨by omega, by omega, by omega, d1s⟩
              · exact ⟨by omega, by omega, by omega, d2s⟩
              · exact ⟨by omega, by omega, by omega, sqf_neg.mpr d3s⟩
              · exact ⟨by omega, by omega, by omega, d4s⟩
              · exact ⟨by omega, by omega, by omega, d1s⟩
            refine for_t (xs := [d1, d2, -d3, d4, d1].map V.int) (fun i σ H' => ∃ o, σ = [some (V.ref a), some (V.ref p), some (V.int g), some (V.int x), some (V.int y), some (V.int d1), some (V.int d2), some (V.int (-d3)), some (V.int d4), o, none, none, none, none, none] ∧ Same (upd H6 q (.tup ([d1, d2, -d3, d4, d1].map V.int))) H') ⟨none, rfl, Same.refl _⟩
              (fun i σ H' _ h => SqT.of (h.choose_spec.2 _ _ upd_same)) ?_ ?_
            · rintro i v σ H' hi ⟨o, rfl, sm⟩ N hN
              obtain ⟨z, hz, rfl⟩ := getI hi
              obtain ⟨b1, b2, b3, b4⟩ := hds z (List.mem_of_getElem? hz)
              walk_at "vc"
              exact ⟨z, rfl, b1, b2, b3, b4, fun H2 sm2 => Or.inr ⟨rfl, hN _ _ ⟨_, rfl, sm.trans sm2⟩⟩⟩
            · rintro σ H7 ⟨o, rfl, sm⟩
              have hp7 := sm _ _ ((upd_ne (ne_of_none hp6 nq)).trans hp6)
              clear sm hp6 nq
              show T1 _ _
              subst h1
              refine seq_at fun T1 h1 => ?_
              walk_at "vc"
              refine ⟨p, ms6, 9, rfl, hp7, hm6, by decide, by decide, fun kk ms8 H8 k0 k1 _ hp8 hm8 => ⟨kk, rfl, ?_⟩⟩
              subst h1
              refine seq_at fun T1 h1 => ?_
              walk_at "vc"
              refine ⟨p, ms8, 9, rfl, hp8, hm8, by decide, by decide, fun n0 ms9 H9 n1 n2 _ hp9 hm9 => ⟨n0, rfl, ?_⟩⟩
              have bk : (1 + n0) * (2 + kk) ≤ 100 * 100 := Int.mul_le_mul (by omega) (by omega) (by omega) (by omega)
              have bk0 : 0 ≤ (1 + n0) * (2 + kk) := Int.mul_nonneg (by omega) (by omega)
              refine ⟨cmul (gr_of (by omega) (by omega)) (gr_of (by omega) (by omega)), cmul (gr_of (by omega) (by omega)) (gr_of (by omega) (by omega)), ?_⟩
              have rN : Refd ((1 + n0) * (2 + kk) * (2 + kk)) := refd_sq (by omega)
              have rN' : Refd (-((1 + n0) * (2 + kk) * (2 + kk))) := by
                have := refd_sq (k := 2 + kk) (n := -(1 + n0)) (by omega)
                rwa [show -(1 + n0) * (2 + kk) * (2 + kk) = -((1 + n0) * (2 + kk) * (2 + kk)) by grind] at this
              generalize (1 + n0) * (2 + kk) * (2 + kk) = N at rN rN' ⊢
              subst h1
              refine seq_at fun T1 h1 => ?_
              walk_at "vc"
              refine ⟨⟨by decide, by decide, by decide⟩, p, ms9, 9, rfl, hp9, hm9, by decide, by decide, fun f0 ms10 H10 f1 f2 _ hp10 hm10 => ⟨f0, rfl, ?_⟩⟩
              subst h1
              refine seq_at fun T1 h1 => ?_
              walk_at "vc"
              refine ⟨cmul (gr_of (by decide +kernel) (by decide +kernel)) (gr_of (by omega) (by omega)), cmul (gr_of (by decide +kernel) (by decide +kernel)) (gr_of (by omega) (by omega)), by decide, fun q2 nq2 => ?_⟩
              have hO : ∃ O : List Int, O = [1, N, -N, 1000000 + f0, -(1000000 + f0), 4 * d1, 9 * -d3, 4, 9, -4] := ⟨_, rfl⟩
              obtain ⟨O, hO⟩ := hO
              have rO : ∀ n ∈ O, Refd n := by
                rw [hO]
                intro n hn
                simp only [List.mem_cons, List.not_mem_nil, or_false] at hn
                rcases hn with rfl | rfl | rfl | rfl | rfl | rfl | rfl | rfl | rfl | rfl
                · exact Or.inr (Or.inr (Or.inr (Or.inl rfl)))
                · exact rN
                · exact rN'
                · exact refd_far (by omega)
                · exact refd_nfar (by omega)
                · exact refd_of (q := 2) (by decide) ⟨d1, by omega⟩
                · exact refd_of (q := 3) (by decide) ⟨-d3, by omega⟩
                · exact refd_of (q := 2) (by decide) ⟨1, by decide⟩
                · exact refd_of (q := 3) (by decide) ⟨1, by decide⟩
                · exact refd_of (q := 2) (by decide) ⟨-1, by decide⟩
              have lO : O.length = 10 := by rw [hO]; rfl
              have eO : [V.int 1, V.int N, V.int (-N), V.int (1000000 + f0), V.int (-(1000000 + f0)), V.int (4 * d1), V.int (9 * -d3), V.int 4, V.int 9, V.int (-4)] = O.map V.int := by rw [hO]; rfl
              rw [eO]
              have dq2 : q2 ≠ p := (ne_of_none hp10 nq2).symm
              have hq2 : upd H10 q2 (.lst (O.map V.int)) q2 = some (.lst (O.map V.int)) := upd_same
              have hp10' : upd H10 q2 (.lst (O.map V.int)) p = some (.lst (ms10.map V.int)) := by rw [upd_ne dq2.symm]; exact hp10
              generalize upd H10 q2 (.lst (O.map V.int)) = HA at hq2 hp10' ⊢
              clear eO hO hp10 nq2
              subst h1
              refine seq_at fun T1 h1 => ?_
              walk_at "vc"
              refine for_r (fun i σ H' => ∃ o1 o2 ms, σ = [some (V.ref a), some (V.ref p), some (V.int g), some (V.int x), some (V.int y), some (V.int d1), some (V.int d2), some (V.int (-d3)), some (V.int d4), o1, some (V.int (2 + kk)), some (V.int N), some (V.int (1000000 + f0)), some (V.ref q2), o2] ∧
                H' q2 = some (.lst (O.map V.int)) ∧ H' p = some (.lst (ms.map V.int)) ∧ ∀ m ∈ ms, 0 ≤ m) ⟨o, none, ms10, rfl, hq2, hp10', hm10⟩ ?_ ?_
              · rintro i σ H' hi ⟨o1, o2, ms, rfl, hq, hp, hm⟩ M hM
                walk_at "vc"
                refine ⟨p, ms, 10, rfl, hp, hm, by decide, by decide, fun z ms' H2 z0 z1 bt hp2 hm2 => ?_⟩
                have hq3 := bt _ _ dq2 hq
                obtain ⟨n, en, mn⟩ : ∃ n, O[z.toNat]? = some n ∧ n ∈ O := ⟨O[z.toNat]'(by omega), List.getElem?_eq_getElem (by omega), List.getElem_mem _⟩
                refine ⟨_, z, rfl, SqL.of hq3, .int n, ?_, n, rfl, rO n mn, fun H3 sm => Or.inr ⟨rfl, hM _ _ ⟨_, _, ms', rfl, sm _ _ hq3, sm _ _ hp2, hm2⟩⟩⟩
                have ei : ixN (O.map V.int).length z = some z.toNat := by unfold ixN; rw [if_pos z0, if_pos (by rw [List.length_map]; omega)]
                unfold atI
                rw [ei]
                show (O.map V.int)[z.toNat]? = _
                rw [List.getElem?_map, en]; rfl
              · rintro σ H' ⟨o1, o2, ms, rfl, hq, hp, hm⟩
                show T1 _ _
                subst h1
                walk_at "vc"
                have dd : d1 * d1 ≤ 1000000 * 1000000 := Int.mul_le_mul d1b d1b (by omega) (by omega)
                refine ⟨0, rfl, Or.inr (Or.inr (Or.inl rfl)), fun H2 _ => Or.inr ⟨rfl, 1, rfl, Or.inr (Or.inr (Or.inr (Or.inl rfl))), fun H3 _ => Or.inr ⟨rfl, cmul (gr_of (by omega) (by omega)) (gr_of (by omega) (by omega)), d1 * d1, rfl, refd_of d1a ⟨1, by omega⟩, fun H4 _ => k H4⟩⟩⟩
          walk_at "vc"
          exact ite2 (fun _ => go 5 (by omega) (by omega) sqf_five) (fun c => go r (by omega) (by omega) rs)
        have eb : big = 1000000000000000000000000000000000000000000000000000000000000 := rfl
        walk_at "vc"
        refine ⟨r, rfl, by omega, by omega, fun two => Or.inr ⟨rfl, cmul (gr_of (by decide +kernel) (by decide +kernel)) (gr_of (by omega) (by omega)), go (3 * r) (by omega) (by omega) (sqf_three rs r1 two)⟩, fun no => Or.inl ⟨rfl, go r ?_ (by omega) rs⟩⟩
        apply Decidable.byContradiction; intro z
        have : r = 1 := by omega
        exact no ⟨1, 0, by omega⟩
      walk_at "vc"
      exact ite2 (fun _ => go 2 (by omega) (by omega) sqf_two) (fun c => go r (by omega) (by omega) rs)
    walk_at "vc"
    exact ite2 (fun _ => go 1 (by omega) (by omega) (by omega)) (fun c => go y0 (by omega) (by omega) (by omega))
end
end K72
set_option Elab.async false
set_option linter.all false
set_option maxRecDepth 100000
set_option maxHeartbeats 4000000
/-! # k72, the facts joined: every def keeps its promise -/
namespace K72
open PySem PySem.Spec PyProof.Rows L2
open C8 (Cal Mak)
section
variable {P : Program} {w : World} {K : PySem.W.Frag} {mg : Str → Option Value} {base : Heap}
theorem fun_of {x q : Str} {st : Stmt} {f : Addr} {fd : FuncData} (F : FunD K x q (defArgs st) (defBody st) (defScope st) [] [] f fd) : Fun K x q st f fd := by
  obtain ⟨oc, od, dV, kV, doc, pm, an, cdv, ct, osl, rfl, lk, hcd, hD, _⟩ := F.ex
  rcases hD with ⟨_, rfl⟩ | ⟨e, _⟩
  · exact ⟨⟨oc, od, kV, doc, pm, an, cdv, ct, osl, rfl, lk, hcd⟩, F.kp⟩
  · exact absurd rfl e
theorem cal {x q : Str} {st : Stmt} {k : Nat} {sp : Sp} {f : Addr} {fd : FuncData} {ps : List Str} (O : FnOk P w K mg base CX0 k f fd ps sp) (F : Fun K x q st f fd) (g : mg x = some (.ref f)) (b : Binds K fd ps []) : Cal P w K mg base k x sp [] := ⟨f, fd, ps, [], O, g, F.kp, b, .nil⟩
theorem calX {x q : Str} {st : Stmt} {k : Nat} {sp : Sp} {f : Addr} {fd : FuncData} {ps : List Str} (O : FnOk P w K mg base (L2.CX P w) k f fd ps sp) (F : Fun K x q st f fd) (g : mg x = some (.ref f)) (b : Binds K fd ps []) : CalX P w K mg base k x sp := ⟨f, fd, ps, O, g, F.kp, b⟩
theorem calZ {x q : Str} {st : Stmt} {k : Nat} {sp : Sp} {f : Addr} {fd : FuncData} {ps : List Str} (O : FnZ P w K mg base k f fd ps sp) (F : Fun K x q st f fd) (g : mg x = some (.ref f)) (b : Binds K fd ps []) : CalZ P w K mg base k x sp := ⟨f, fd, ps, O, g, F.kp, b⟩
theorem intR {x : Str} {i : Int} (h : ∃ t, mg x = some (.int i t)) : ∃ u, mg x = some u ∧ RelV (.int i) u := by
  obtain ⟨t, e⟩ := h
  exact ⟨_, e, t, rfl⟩
end
theorem super_free : (rP.main.scope.names.lookup ("super" : Str)).isSome = false := by kernel_rfl
section
variable {w : World} {K : PySem.W.Frag} {mg : Str → Option Value} {h : Heap}
theorem facts {f : Addr} (X : K.In h) (G : h.Ns mainGlobals mg) (hfa : mg ("law" : Str) = some (.ref f)) (cx : SaysX fas fns K) :
    ∃ fd : FuncData, (∀ (s : Shared) (v : Value), BindsTo s fd ⟨[v], []⟩ [("script", v)]) ∧ ∀ base : Heap, K.In base → base.Ns mainGlobals mg → FnOk rP w K mg base CX0 8 f fd ["script"] (spLaw K) := by
  have c := cx.d
  have exl : ∀ (i : Nat) {b : Bool}, (exL K)[i]? = some b → b = true := fun i b hb => List.eq_of_mem_replicate (cx.l ▸ List.mem_of_getElem? hb)
  have exm : ∀ (i : Nat) {b : Bool}, (exM K)[i]? = some b → b = true := fun i b hb => List.eq_of_mem_replicate (cx.m ▸ List.mem_of_getElem? hb)
  have glo : ∀ (i : Nat) {x : Str}, fas[i]? = some (.glo x) → mg x = some (.ref (He.ga K x)) := fun i x hx => He.glo_ok X G (c.fact i hx)
  have fre : ∀ (i : Nat) {x : Str}, fas[i]? = some (.free x) → mg x = none := fun i x hx => He.free_ok X G (c.fact i hx)
  -- the defs
  obtain ⟨_, D0⟩ := c.def_ 0 (d := dF "check_bounds" sCheckBounds) rfl
  obtain ⟨_, D1⟩ := c.def_ 1 (d := dF "check_size" sCheckSize) rfl
  obtain ⟨_, D2⟩ := c.def_ 2 (d := dF "exact_root" sExactRoot) rfl
  obtain ⟨_, D3⟩ := c.def_ 3 (d := dF "least_divisor" sLeast) rfl
  obtain ⟨_, D4⟩ := c.def_ 4 (d := dF "prime_powers" sPrimePowers) rfl
  obtain ⟨_, D5⟩ := c.def_ 5 (d := dF "square_free" sSquareFree) rfl
  obtain ⟨_, D6⟩ := c.def_ 6 (d := dF "two_squares" sTwoSquares) rfl
  obtain ⟨_, D7⟩ := c.def_ 7 (d := dF "trimmed" sTrimmed) rfl
  obtain ⟨_, D8⟩ := c.def_ 8 (d := dF "poly_of" sPolyOf) rfl
  obtain ⟨_, D9⟩ := c.def_ 9 (d := ⟨("Poly", some "__init__"), "__init__", "Poly.__init__", defArgs sPolyInit, defBody sPolyInit, defScope sPolyInit, [], []⟩) rfl
  obtain ⟨_, D10⟩ := c.def_ 10 (d := dF "cyclic_poly" sCyclicPoly) rfl
  obtain ⟨_, D11⟩ := c.def_ 11 (d := dF "bar_of" sBarOf) rfl
  obtain ⟨_, D12⟩ := c.def_ 12 (d := dF "cyclic_above" sCyclicAbove) rfl
  obtain ⟨_, D13⟩ := c.def_ 13 (d := dF "_law_pool" sLawPool) rfl
  obtain ⟨_, D14⟩ := c.def_ 14 (d := dF "_law_draw" sLawDraw) rfl
  obtain ⟨_, D15⟩ := c.def_ 15 (d := dF "_law_int" sLawInt) rfl
  obtain ⟨_, D16⟩ := c.def_ 16 (d := dF "_law_root" sLawRoot) rfl
  obtain ⟨_, D17⟩ := c.def_ 17 (d := dF "_law_square" sLawSquare) rfl
  obtain ⟨_, D18⟩ := c.def_ 18 (d := dF "_law_disc" sLawDisc) rfl
  obtain ⟨_, D19⟩ := c.def_ 19 (d := dF "_law_value" sLawValue) rfl
  obtain ⟨_, D20⟩ := c.def_ 20 (d := dF "_law_free" sLawFree) rfl
  obtain ⟨_, D21⟩ := c.def_ 21 (d := dF "_law_two" sLawTwo) rfl
  obtain ⟨_, D22⟩ := c.def_ 22 (d := dF "_law_bar" sLawBar) rfl
  obtain ⟨_, D23⟩ := c.def_ 23 (d := dF "_law_find" sLawFind) rfl
  obtain ⟨_, D24⟩ := c.def_ 24 (d := dF "_law_integers" sLawInts) rfl
  obtain ⟨_, D25⟩ := c.def_ 25 (d := dF "_law_above" sLawAbove) rfl
  obtain ⟨_, D26⟩ := c.def_ 26 (d := dF "_law_told" sLawTold) rfl
  obtain ⟨_, D27⟩ := c.def_ 27 (d := dF "_law_refused" sLawRefused) rfl
  obtain ⟨fdL, D28⟩ := c.def_ 28 (d := dF "law" sLaw) rfl
  have F0 : Fun K "check_bounds" "check_bounds" sCheckBounds _ _ := fun_of D0
  have F1 : Fun K "check_size" "check_size" sCheckSize _ _ := fun_of D1
  have F2 : Fun K "exact_root" "exact_root" sExactRoot _ _ := fun_of D2
  have F3 : Fun K "least_divisor" "least_divisor" sLeast _ _ := fun_of D3
  have F4 : Fun K "prime_powers" "prime_powers" sPrimePowers _ _ := fun_of D4
  have F5 : Fun K "square_free" "square_free" sSquareFree _ _ := fun_of D5
  have F6 : Fun K "two_squares" "two_squares" sTwoSquares _ _ := fun_of D6
  have F7 : Fun K "trimmed" "trimmed" sTrimmed _ _ := fun_of D7
  have F8 : Fun K "poly_of" "poly_of" sPolyOf _ _ := fun_of D8
  have F9 : Fun K "__init__" "Poly.__init__" sPolyInit _ _ := fun_of D9
  have F10 : Fun K "cyclic_poly" "cyclic_poly" sCyclicPoly _ _ := fun_of D10
  have F11 : Fun K "bar_of" "bar_of" sBarOf _ _ := fun_of D11
  have F12 : Fun K "cyclic_above" "cyclic_above" sCyclicAbove _ _ := fun_of D12
  have F13 : Fun K "_law_pool" "_law_pool" sLawPool _ _ := fun_of D13
  have F14 : Fun K "_law_draw" "_law_draw" sLawDraw _ _ := fun_of D14
  have F15 : Fun K "_law_int" "_law_int" sLawInt _ _ := fun_of D15
  have F16 : Fun K "_law_root" "_law_root" sLawRoot _ _ := fun_of D16
  have F17 : Fun K "_law_square" "_law_square" sLawSquare _ _ := fun_of D17
  have F18 : Fun K "_law_disc" "_law_disc" sLawDisc _ _ := fun_of D18
  have F19 : Fun K "_law_value" "_law_value" sLawValue _ _ := fun_of D19
  have F20 : Fun K "_law_free" "_law_free" sLawFree _ _ := fun_of D20
  have F21 : Fun K "_law_two" "_law_two" sLawTwo _ _ := fun_of D21
  have F22 : Fun K "_law_bar" "_law_bar" sLawBar _ _ := fun_of D22
  have F23 : Fun K "_law_find" "_law_find" sLawFind _ _ := fun_of D23
  have F24 : Fun K "_law_integers" "_law_integers" sLawInts _ _ := fun_of D24
  have F25 : Fun K "_law_above" "_law_above" sLawAbove _ _ := fun_of D25
  have F26 : Fun K "_law_told" "_law_told" sLawTold _ _ := fun_of D26
  have F27 : Fun K "_law_refused" "_law_refused" sLawRefused _ _ := fun_of D27
  have F28 : Fun K "law" "law" sLaw _ fdL := fun_of D28
  have e := hfa.symm.trans (glo 28 (x := "law") rfl)
  cases e
  have mL : mg "len" = none := fre 29 rfl
  have mA : mg "abs" = none := fre 30 rfl
  have mI : mg "int" = none := fre 31 rfl
  have mR : mg "range" = none := fre 32 rfl
  have mT : mg "tuple" = none := fre 33 rfl
  have mS : mg "isinstance" = none := fre 34 rfl
  have mAll : mg "all" = none := fre 35 rfl
  have mLi : mg "list" = none := fre 36 rfl
  have mB : mg "bool" = none := fre 37 rfl
  have mStr : mg "str" = none := fre 38 rfl
  have mSum : mg "sum" = none := fre 39 rfl
  have iN := intR (He.int_ok X G (c.fact 40 (f := .int "MOST_NUMBER" 1000000000) rfl))
  have iPl := intR (He.int_ok X G (c.fact 41 (f := .int "MOST_PLAIN" 1000000) rfl))
  have iPa := intR (He.int_ok X G (c.fact 42 (f := .int "MOST_PARAMETER" 1000000) rfl))
  have iCo := intR (He.int_ok X G (c.fact 43 (f := .int "MOST_COEFFS" 61) rfl))
  have PT : PolyTxt K (aP K) := ⟨He.cls_ok (c.fact 44 (f := .cls "Poly") rfl), He.noat_ok (c.fact 45 (f := .noat "Poly" "coeffs") rfl), He.noat_ok (c.fact 46 (f := .noat "Poly" "degree") rfl), He.noat_ok (c.fact 47 (f := .noat "Poly" "lead") rfl)⟩
  have PM : Mk K (aP K) _ := He.mkr_ok (c.fact 48 (f := .mkr "Poly") rfl)
  obtain ⟨z1, z2, z3, z4⟩ := He.exc_ok (c.fact 49 (f := .exc "ZeroError") rfl)
  have gZ : mg "ZeroError" = some (.ref (aZ K)) := PySem.W.mg_of X G (He.eqO_ok (exm 10 rfl))
  have ZT : ZeroTxt K mg (aZ K) := ⟨gZ, z1, z2, z3, z4⟩
  have gP : mg "Poly" = some (.ref (aP K)) := PySem.W.mg_of X G (He.eqO_ok (exm 9 rfl))
  have PI : PolyIs K (aP K) := ⟨He.eqO_ok (exm 4 rfl), He.eqO_ok (exm 5 rfl), of_decide_eq_true (exm 6 rfl), of_decide_eq_true (exm 7 rfl), of_decide_eq_true (exm 8 rfl)⟩
  obtain ⟨cda, cc, n1, n2, n3⟩ := fnN_ok cx.f (exl 10 rfl)
  have NT : NumTxt rP K mg (aN K) (aI K) cda cc :=
    { gC := PySem.W.mg_of X G (He.eqO_ok (exl 1 rfl)), cls := numCls_ok (exl 2 rfl), sa := He.eqO_ok (exl 3 rfl), noN := He.eqO_ok (exl 4 rfl), iC := He.eqO_ok (exl 5 rfl), tI := of_decide_eq_true (exl 6 rfl), kC := exl 7 rfl, exC := of_decide_eq_true (exl 8 rfl), tyC := of_decide_eq_true (exl 9 rfl),
      fn := n1, code := n2, cell := n3, mro := of_decide_eq_true (exl 11 rfl), sup := He.eqO_ok (exl 12 rfl), opq := He.eqO_ok (exl 13 rfl), si := He.eqO_ok (exl 14 rfl), sv := of_decide_eq_true (exl 15 rfl), ptop := super_free }
  have EI : ErrIs K mg (aN K) (aZ K) (aR K) :=
    { gR := PySem.W.mg_of X G (He.eqO_ok (exm 3 rfl)), exN := He.exm_ok (c.fact 50 (f := .exm "NumberError" "RootError" true) rfl), exZ := He.exm_ok (c.fact 51 (f := .exm "ZeroError" "RootError" true) rfl), cN := excB_ok (exl 16 rfl), cZ := excB_ok (exl 17 rfl), xN := xfB_ok (exl 18 rfl),
      nn := of_decide_eq_true (exl 19 rfl), nz := of_decide_eq_true (exm 0 rfl), zz := of_decide_eq_true (exm 1 rfl), zn := of_decide_eq_true (exm 2 rfl) }
  refine ⟨_, fun s v => FunD.bindsA (ps := ["script"]) D28 (fun _ _ _ _ _ _ us hl => match us, hl with | [_], _ => rfl) s [v] rfl, fun base _ _ => ?_⟩
  have C0 : Cal rP w K mg base 1 "check_bounds" spBounds0 [] := cal (ok_bounds0 F0) F0 (glo 0 rfl) (F0.binds fun _ _ _ _ _ _ us hl => match us, hl with | [_, _, _], _ => rfl)
  have C0X : CalX rP w K mg base 3 "check_bounds" (spBounds (aN K)) := calX (ok_bounds F0 NT) F0 (glo 0 rfl) (F0.binds fun _ _ _ _ _ _ us hl => match us, hl with | [_, _, _], _ => rfl)
  have C1 : Cal rP w K mg base 1 "check_size" (spSize K) [] := cal (ok_size F1 mL) F1 (glo 1 rfl) (F1.binds fun _ _ _ _ _ _ us hl => match us, hl with | [_, _, _], _ => rfl)
  have C2 : Cal rP w K mg base 1 "exact_root" spRoot [] := cal (ok_root F2 (PySem.W.mg_of X G (He.eqO_ok (exl 0 rfl)))) F2 (glo 2 rfl) (F2.binds fun _ _ _ _ _ _ us hl => match us, hl with | [_], _ => rfl)
  have C3 : Cal rP w K mg base 1 "least_divisor" spLeast [] := cal (ok_least F3) F3 (glo 3 rfl) (F3.binds fun _ _ _ _ _ _ us hl => match us, hl with | [_], _ => rfl)
  have C4 : Cal rP w K mg base 2 "prime_powers" spPowers [] := cal (ok_powers F4 C0 C3 iN) F4 (glo 4 rfl) (F4.binds fun _ _ _ _ _ _ us hl => match us, hl with | [_], _ => rfl)
  have C5 : Cal rP w K mg base 3 "square_free" spSqf [] := cal (ok_sqf F5 C0 C4 iN mA) F5 (glo 5 rfl) (F5.binds fun _ _ _ _ _ _ us hl => match us, hl with | [_], _ => rfl)
  have C6 : Cal rP w K mg base 2 "two_squares" spTwoSq [] := cal (ok_twoSq F6 C0 C2 iPl) F6 (glo 6 rfl) (F6.binds fun _ _ _ _ _ _ us hl => match us, hl with | [_], _ => rfl)
  have b7 : Binds K _ ["row"] [] := F7.binds (ps := ["row"]) fun _ _ _ _ _ _ us hl => match us, hl with | [_], _ => rfl
  have C70 : Cal rP w K mg base 1 "trimmed" (spTrim0 K) [] := cal (ok_trim0 F7 mL mT) F7 (glo 7 rfl) b7
  have C7L : Cal rP w K mg base 1 "trimmed" (spTrimL K) [] := cal (ok_trimL F7 mL mT) F7 (glo 7 rfl) b7
  have b9 := F9.binds (ps := ["self", "coeffs"]) fun _ _ _ _ _ _ us hl => match us, hl with | [_, _], _ => rfl
  have M9 : Mak rP w K mg base 2 "Poly" (aP K) (spInit K (aP K)) [] := ⟨_, _, ["self", "coeffs"], [], PM, ok_init F9 PT C1 C0 C70 iCo mL, gP, b9, .nil⟩
  have C8' : Cal rP w K mg base 4 "poly_of" (spPolyOf K (aP K)) [] := cal (ok_polyOf F8 PT C7L M9 mL) F8 (glo 8 rfl) (F8.binds fun _ _ _ _ _ _ us hl => match us, hl with | [_], _ => rfl)
  have C10 : Cal rP w K mg base 5 "cyclic_poly" (spCyc (aP K)) [] := cal (ok_cyc F10 C8') F10 (glo 10 rfl) (F10.binds fun _ _ _ _ _ _ us hl => match us, hl with | [_, _, _], _ => rfl)
  have C11 : Cal rP w K mg base 3 "bar_of" spBar [] := cal (ok_bar F11 C4) F11 (glo 11 rfl) (F11.binds fun _ _ _ _ _ _ us hl => match us, hl with | [_], _ => rfl)
  have C12 : CalX rP w K mg base 6 "cyclic_above" (spAbove (aN K) (aZ K) (aP K)) := calX (ok_above F12 NT ZT C0X C5 C11 C6 C10 iPa) F12 (glo 12 rfl) (F12.binds fun _ _ _ _ _ _ us hl => match us, hl with | [_], _ => rfl)
  have C13 : Cal rP w K mg base 1 "_law_pool" (spPool K) [] := cal (ok_pool F13 mA mI mSum mR) F13 (glo 13 rfl) (F13.binds fun _ _ _ _ _ _ us hl => match us, hl with | [_], _ => rfl)
  have C14 : Cal rP w K mg base 1 "_law_draw" spDraw [] := cal (ok_draw F14 mI) F14 (glo 14 rfl) (F14.binds fun _ _ _ _ _ _ us hl => match us, hl with | [_, _], _ => rfl)
  have b15 := F15.binds (ps := ["x"]) fun _ _ _ _ _ _ us hl => match us, hl with | [_], _ => rfl
  have C15 : Cal rP w K mg base 1 "_law_int" spLint [] := cal (ok_lint F15 mS mI mB) F15 (glo 15 rfl) b15
  have C15Z : CalZ rP w K mg base 1 "_law_int" spLint := calZ (okz_lint F15 mS mI mB) F15 (glo 15 rfl) b15
  have C16 : Cal rP w K mg base 1 "_law_root" spLroot [] := cal (ok_lroot F16) F16 (glo 16 rfl) (F16.binds fun _ _ _ _ _ _ us hl => match us, hl with | [_], _ => rfl)
  have C17 : Cal rP w K mg base 2 "_law_square" spLsq [] := cal (ok_lsq F17 C16) F17 (glo 17 rfl) (F17.binds fun _ _ _ _ _ _ us hl => match us, hl with | [_], _ => rfl)
  have b18 := F18.binds (ps := ["f"]) fun _ _ _ _ _ _ us hl => match us, hl with | [_], _ => rfl
  have C184 : Cal rP w K mg base 1 "_law_disc" (spDisc4 K) [] := cal (ok_disc4 F18 mL) F18 (glo 18 rfl) b18
  have C185 : Cal rP w K mg base 2 "_law_disc" (spDisc5 K) [] := cal (ok_disc5 F18 C184 mL) F18 (glo 18 rfl) b18
  have C19 : Cal rP w K mg base 1 "_law_value" (spVal K) [] := cal (ok_val F19) F19 (glo 19 rfl) (F19.binds fun _ _ _ _ _ _ us hl => match us, hl with | [_, _], _ => rfl)
  have C20 : Cal rP w K mg base 1 "_law_free" spFree [] := cal (ok_free F20 mR mA mI) F20 (glo 20 rfl) (F20.binds fun _ _ _ _ _ _ us hl => match us, hl with | [_], _ => rfl)
  have C21 : Cal rP w K mg base 2 "_law_two" spLtwo [] := cal (ok_ltwo F21 C16) F21 (glo 21 rfl) (F21.binds fun _ _ _ _ _ _ us hl => match us, hl with | [_], _ => rfl)
  have C22 : Cal rP w K mg base 1 "_law_bar" spLbar [] := cal (ok_lbar F22 mR mI) F22 (glo 22 rfl) (F22.binds fun _ _ _ _ _ _ us hl => match us, hl with | [_], _ => rfl)
  have C23 : Cal rP w K mg base 2 "_law_find" (spFind K) [] := cal (ok_find F23 C19) F23 (glo 23 rfl) (F23.binds fun _ _ _ _ _ _ us hl => match us, hl with | [_, _, _, _], _ => rfl)
  have C24 : Cal rP w K mg base 3 "_law_integers" (spInts K) [] := cal (ok_ints F24 C23 C16 C19 mA mLi mR) F24 (glo 24 rfl) (F24.binds fun _ _ _ _ _ _ us hl => match us, hl with | [_], _ => rfl)
  have C25 : Cal rP w K mg base 4 "_law_above" (spLabove (aP K)) [] := cal (ok_labove F25 PT PI C15 C185 C17 C24 ⟨_, gP, rfl⟩ mS mT mAll mL) F25 (glo 25 rfl) (F25.binds fun _ _ _ _ _ _ us hl => match us, hl with | [_, _], _ => rfl)
  have C26 : Cal rP w K mg base 7 "_law_told" spTold [] := cal (ok_told F26 C12 C21 C25 C15 C22 mS mT mStr mL) F26 (glo 26 rfl) (F26.binds fun _ _ _ _ _ _ us hl => match us, hl with | [_], _ => rfl)
  have C27 : Cal rP w K mg base 7 "_law_refused" spRefused [] := cal (ok_refused F27 NT ZT EI C12 C15Z mS) F27 (glo 27 rfl) (F27.binds fun _ _ _ _ _ _ us hl => match us, hl with | [_], _ => rfl)
  exact ok_law F28 C13 C14 C20 C21 C26 C27 mI mR
end
end K72
set_option Elab.async false
set_option linter.all false
set_option maxRecDepth 100000
set_option maxHeartbeats 0
open PySem PySem.W PySem.Calls PyProof.Rows
theorem PySem.Challenge.cw_roottower_k72_above_a_square_root_holds : PySem.Challenge.rw_roottower_k72_above_a_square_root.Holds := by
  w_on; o_law
  refine K72.head_imp (r := OpenLaw.row PySem.Challenge.rw_roottower_k72_above_a_square_root) (q := view (OpenLaw.row PySem.Challenge.rw_roottower_k72_above_a_square_root).prog [75]) (H := K72.hk) (ob := K72.ob) (N := 6000) (M := 6000) (loose := K72.names) (d := HandSHeadRun.topDef (OpenLaw.row PySem.Challenge.rw_roottower_k72_above_a_square_root).prog 75) (kwd := []) K72.ob_eq
    (by rfl) K72.run (by kernel_rfl) (by kernel_rfl) (by kernel_rfl) (by rfl) (by first | assumption | decide +kernel) (by decide +kernel) ⟨rfl, rfl, rfl, rfl, rfl, by decide +kernel⟩ ?hw ?hc
  case hw => w_witness2
  case hc =>
    refine L2.walk_ofE (l := PySem.Challenge.rw_roottower_k72_above_a_square_root) (n := 63) (k := 8) (x := "script") (CX := L2.CX0) rfl (by decide) (by kernel_rfl) ⟨rfl, by decide, by decide⟩ ?F (fun _ _ _ _ z => z)
    intro w mg fa h Y G hmg0
    obtain ⟨K, KX, c⟩ := Y
    have hmg : mg ("law" : PySem.Str) = some (.ref fa) := by
      have e : (HandSHeadRun.topDef (OpenLaw.row PySem.Challenge.rw_roottower_k72_above_a_square_root).prog 75).name = ("law" : PySem.Str) := by kernel_rfl
      rw [← e]
      exact hmg0
    obtain ⟨fd, hb, hF⟩ := K72.facts (w := w) KX G hmg c
    exact ⟨K, fd, K72.spLaw K, KX, hb, fun H a ns hl _ hS => ⟨a, ns, rfl, hS, hl, fun _ => rfl⟩, hF⟩
