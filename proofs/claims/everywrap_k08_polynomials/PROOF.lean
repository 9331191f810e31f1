import PyProof.Rows.All
import Wide.All
import OpenK.AllK
import Wide.FinOn
import HandS.ForMost
import HandS.ForExc
import KE.KExcSuper
import KE.KStateDown
import HandS.Head0
import HandS.Head1
import HandS.Head2
import HandS.Head3
import HandS.HeadEnd
import HandS.HeadHook1
import HandS.HeadHook2
import HandS.IsInst
import HandS.TupMul
import HandS.TupAny
import HandS.Wide
import HandS.Walk
import HandS.Style
import HandS.TryMany
import HandS.ExcInit
import HandS.NoneIn
import HandS.Zip
import KE.KFromBytes
import HandS.ExcSuper
import HandS.ExcField
import HandS.Defaults
import HandS.HeadWalk
import PyProof.EnumIter
import PyProof.EnumMake
import HandS.Zip0
import HandS.Iter
import HandS.Text
import HandS.Dict
import HandS.WordsDict
import HandS.Gcd
import HandS.Star
import HandS.More
import KE.KMathGC
import HandS.TupSets
import HandS.TupLe
import HandS.Small
import HandS.Conv
import PySem.Challenge.RW_everywrap_k08_polynomials
section
set_option Elab.async false
set_option linter.all false
set_option maxRecDepth 100000
set_option maxHeartbeats 1000000
/-! EwHd: the program's top by one kernel run; what it leaves, read off by questions of one's own. -/
namespace Hd
open PySem PySem.Spec PyProof.Rows L2
abbrev veT : List Value := [.type "ValueError", .type "Exception", .type "BaseException", .type "object"]
/-- what is asked of an exception class at C, its __init__ at fJ, with these fields -/
def clsB (K : PySem.W.Frag) (C fJ : Addr) (fds : List Str) : Bool :=
  (PySem.W.findIn K (.ref C) "__setattr__" == some (some (.builtin "object.__setattr__"))) && ((PySem.W.findIn K (.ref C) "given" == some none) && ((PySem.W.findIn K (.ref C) "__init__" == some (some (.ref fJ))) && ((PySem.W.typeIn K (.ref fJ) == some (.type "function")) && (PySem.W.keepIn K (.ref C) &&
  ((PySem.W.findIn K (.ref C) "__getattribute__" == some (some (.builtin "BaseException.__getattribute__"))) && ((PySem.W.findIn K (.ref C) "__getattr__" == some none) && ((PySem.W.findIn K (.ref C) "__class__" == some (some (.builtin "object.__class__"))) && fds.all fun f => PySem.W.findIn K (.ref C) f == some none)))))))
/-- the __init__ of a class statement -/
def initOf : Stmt → Stmt
  | .ClassDef _ _ _ body _ _ _ _ _ _ _ => body.getD 0 (.Pass ⟨0, 0, 0, 0⟩)
  | s => s
/-- a function as it stands: of the module (none), of a class -/
structure Df where
  at_ : Str × Option Str
  name : Str
  qual : Str
  params : Arguments
  body : List Stmt
  scope : Scope
  cl : List Str := []
abbrev Vw : Type := Option (Str × Str × Arguments × FuncBody × Scope × Addr × List Str × Addr)
def Df.obs (K : PySem.W.Frag) (d : Df) : Vw := match K.lookup (He.fAd K d.at_) with
  | some ⟨_, _, .func fd, _⟩ => some (fd.name, fd.qualname, fd.params, fd.body, fd.scope, fd.globals, fd.closure.map (·.1), fd.builtins)
  | _ => none
def Df.val (d : Df) : Vw := some (d.name, d.qual, d.params, .stmts d.body, d.scope, mainGlobals, d.cl, builtinsNs)
def isNoneB : Value → Bool
  | .none => true
  | _ => false
theorem isNoneB_ok {v : Value} (h : isNoneB v = true) : v = .none := by cases v <;> first | rfl | cases h
/-- no defaults, its code is known -/
def Df.ok (d : Df) (K : PySem.W.Frag) : Bool := match K.lookup (He.fAd K d.at_) with
  | some ⟨_, _, .func fd, _⟩ => PySem.W.codeIn K fd.code d.qual && (isNoneB fd.defaults && PySem.W.keepIn K (.ref (He.fAd K d.at_)))
  | _ => false
theorem Df.get {K : PySem.W.Frag} {d : Df} (e : d.obs K = d.val) (hc : d.cl = []) (c : d.ok K = true) :
    ∃ oc od osl kV doc pm an cdv ct, K.lookup (He.fAd K d.at_) = some ⟨oc, od, .func (PySem.W.fnOf d.name d.qual d.params d.body d.scope .none kV doc pm an cdv ct), osl⟩ ∧ PySem.W.codeIn K cdv d.qual = true ∧ PySem.W.keepIn K (.ref (He.fAd K d.at_)) = true := by
  unfold Df.obs Df.val at e
  unfold Df.ok at c
  cases q : K.lookup (He.fAd K d.at_) with
  | none => rw [q] at c; cases c
  | some o =>
    obtain ⟨oc, od, dt, osl⟩ := o
    rw [q] at c e
    cases dt with
    | func fd =>
      obtain ⟨n1, n2, n3, n4, n5, n6, n7, n8, n9, n10, n11, n12, n13, n14, n15⟩ := fd
      simp only [Option.some.injEq, Prod.mk.injEq] at e
      obtain ⟨h1, h2, h3, h4, h5, h6, h7, h8⟩ := e
      obtain ⟨c1, c2⟩ := Bool.and_eq_true_iff.mp c
      obtain ⟨c2, c3⟩ := Bool.and_eq_true_iff.mp c2
      have c2 := isNoneB_ok c2
      have h7' : n7 = [] := List.map_eq_nil_iff.mp (h7.trans hc)
      subst h1 h2 h3 h4 h5 h6 h7' h8 c2
      exact ⟨oc, od, osl, n9, n10, n11, n12, n13, n14, rfl, c1, c3⟩
    | _ => cases c
def cellB (K : PySem.W.Frag) (c b : Addr) : Bool := match K.lookup c with
  | some ⟨_, _, .cell (some (.ref a)), _⟩ => decide (a = b)
  | _ => false
theorem cellB_ok {K : PySem.W.Frag} {c b : Addr} (h : cellB K c b = true) : ∃ cl cld csl, K.lookup c = some ⟨cl, cld, .cell (some (.ref b)), csl⟩ := by
  unfold cellB at h
  split at h
  · rename_i q
    rw [of_decide_eq_true h] at q
    exact ⟨_, _, _, q⟩
  · cases h
def fileB (K : PySem.W.Frag) (c : Addr) (file : Str) : Bool := match K.lookup c with
  | some ⟨_, _, .fields vs, _⟩ => (match vs.toList with
    | _ :: _ :: .str f _ :: _ => file == f
    | _ => false)
  | _ => false
theorem fileB_ok {K : PySem.W.Frag} {c : Addr} {file : Str} (h : fileB K c file = true) : ∃ cl cdd vs sl f tf, K.lookup c = some ⟨cl, cdd, .fields vs, sl⟩ ∧ vs[2]? = some (.str f tf) ∧ (file == f) = true := by
  unfold fileB at h
  split at h
  · rename_i vs sl q
    split at h
    · rename_i f tf r e
      refine ⟨_, _, vs, _, f, tf, q, ?_, h⟩
      rw [← Array.getElem?_toList, e]
      rfl
    · cases h
  · cases h
def oneB (K : PySem.W.Frag) (T : Addr) : Bool := match K.lookup T with
  | some ⟨_, _, .seq its _, _⟩ => (match its.toList with
    | [v] => isNoneB v
    | _ => false)
  | _ => false
theorem oneB_ok {K : PySem.W.Frag} {T : Addr} (h : oneB K T = true) : ∃ tc td nT tsl, K.lookup T = some ⟨tc, td, .seq #[.none] nT, tsl⟩ := by
  unfold oneB at h
  split at h
  · rename_i its n sl q
    split at h
    · rename_i v e
      rw [isNoneB_ok h] at e
      have e2 : its = #[.none] := by
        cases its
        simp only at e
        rw [e]
      rw [e2] at q
      exact ⟨_, _, _, _, q⟩
    · cases h
  · cases h
def refB (f : Addr → Bool) : Value → Bool
  | .ref a => f a
  | _ => false
theorem refB_ok {f : Addr → Bool} {v : Value} (h : refB f v = true) : ∃ a, v = .ref a ∧ f a = true := by
  cases v with
  | ref a => exact ⟨a, rfl, h⟩
  | _ => cases h
def clB (f : Addr → Bool) : List (Str × Addr) → Bool
  | [p] => f p.2
  | _ => false
/-- with the cell of its class, its code's file told; df: its default is None -/
def Df.ks (file : Str) (df : Bool) (C : PySem.W.Frag → Addr) (d : Df) (K : PySem.W.Frag) : Bool := match K.lookup (He.fAd K d.at_) with
  | some ⟨_, _, .func fd, _⟩ => PySem.W.codeIn K fd.code d.qual && (refB (fun c => fileB K c file) fd.code && (clB (fun c => cellB K c (C K)) fd.closure && (bif df then refB (oneB K) fd.defaults else isNoneB fd.defaults)))
  | _ => false
theorem Df.ks_get {K : PySem.W.Frag} {d : Df} {file : Str} {df : Bool} {C : PySem.W.Frag → Addr} (e : d.obs K = d.val) (hc : d.cl = [("__class__" : Str)]) (c : d.ks file df C K = true) :
    ∃ (oc : Value) (od : Option Addr) (osl : Array (Option Value)) (dV kV doc pm : Value) (an : Option Addr) (cda cc : Addr) (ct ccl cl : Value) (cdd cld : Option Addr) (vs : Array Value) (ccs csl : Array (Option Value)) (f : Str) (tf : Tok),
      K.lookup (He.fAd K d.at_) = some ⟨oc, od, .func (PySem.W.ksFn d.name d.qual d.params d.body d.scope dV kV doc pm an (.ref cda) ct cc), osl⟩ ∧ PySem.W.codeIn K (.ref cda) d.qual = true ∧
      K.lookup cda = some ⟨ccl, cdd, .fields vs, ccs⟩ ∧ vs[2]? = some (.str f tf) ∧ (file == f) = true ∧ K.lookup cc = some ⟨cl, cld, .cell (some (.ref (C K))), csl⟩ ∧
      (df = false → dV = .none) ∧ (df = true → ∃ (Td : Addr) (tc : Value) (td : Option Addr) (nT : Nat) (tsl : Array (Option Value)), dV = .ref Td ∧ K.lookup Td = some ⟨tc, td, .seq #[.none] nT, tsl⟩) := by
  unfold Df.obs Df.val at e
  unfold Df.ks at c
  cases q : K.lookup (He.fAd K d.at_) with
  | none => rw [q] at c; cases c
  | some o =>
    obtain ⟨oc, od, dt, osl⟩ := o
    rw [q] at c e
    cases dt with
    | func fd =>
      obtain ⟨n1, n2, n3, n4, n5, n6, n7, n8, n9, n10, n11, n12, n13, n14, n15⟩ := fd
      simp only [Option.some.injEq, Prod.mk.injEq] at e
      obtain ⟨h1, h2, h3, h4, h5, h6, h7, h8⟩ := e
      obtain ⟨c1, c⟩ := Bool.and_eq_true_iff.mp c
      obtain ⟨c2, c⟩ := Bool.and_eq_true_iff.mp c
      obtain ⟨c3, c4⟩ := Bool.and_eq_true_iff.mp c
      have c1 : PySem.W.codeIn K n13 d.qual = true := c1
      have c2 : refB (fun c => fileB K c file) n13 = true := c2
      have c3 : clB (fun c => cellB K c (C K)) n7 = true := c3
      have c4 : (bif df then refB (oneB K) n8 else isNoneB n8) = true := c4
      obtain ⟨cda, e13, c2⟩ := refB_ok c2
      obtain ⟨ccl, cdd, vs, ccs, f, tf, l2, l3, l4⟩ := fileB_ok c2
      rw [hc] at h7
      obtain ⟨x, cc, rfl⟩ : ∃ x cc, n7 = [(x, cc)] := by
        cases n7 with
        | nil => cases h7
        | cons p r =>
          cases r with
          | nil => exact ⟨p.1, p.2, rfl⟩
          | cons _ _ => exact absurd (congrArg List.length h7) (by simp)
      have ex : x = ("__class__" : Str) := (List.cons.inj h7).1
      obtain ⟨cl, cld, csl, l5⟩ := cellB_ok (show cellB K cc (C K) = true from c3)
      subst h1 h2 h3 h4 h5 h6 h8 ex e13
      refine ⟨oc, od, osl, n8, n9, n10, n11, n12, cda, cc, n14, ccl, cl, cdd, cld, vs, ccs, csl, f, tf, rfl, c1, l2, l3, l4, l5, fun z => ?_, fun z => ?_⟩
      · rw [z] at c4
        exact isNoneB_ok c4
      · rw [z] at c4
        obtain ⟨T, e8, c5⟩ := refB_ok c4
        obtain ⟨tc, td, nT, tsl, l6⟩ := oneB_ok c5
        exact ⟨T, tc, td, nT, tsl, e8, l6⟩
    | _ => cases c
/-- an exception class over these -/
def slB (sl : Array (Option Value)) : Bool := match sl.toList with
  | [_, _, _, _, some (.builtin n), _] => n == "ValueError.__new__"
  | _ => false
theorem slB_ok {sl : Array (Option Value)} (h : slB sl = true) : ∃ u0 u1 u2 u3 u5, sl = #[u0, u1, u2, u3, some (.builtin "ValueError.__new__"), u5] := by
  unfold slB at h
  split at h
  · rename_i u0 u1 u2 u3 n u5 hs
    rw [beq_iff_eq.mp h] at hs
    exact ⟨u0, u1, u2, u3, u5, by cases sl; simp only at hs; rw [hs]⟩
  · cases h
def excB (C : PySem.W.Frag → Addr) (bm : PySem.W.Frag → List Value) (K : PySem.W.Frag) : Bool := match K.lookup (C K) with
  | some ⟨t, _, .cls cd, sl⟩ => decide (t = .type "type") && (slB sl && (decide (cd.mro = .ref (C K) :: bm K) && (!cd.hasDel && cd.hasDict)))
  | _ => false
theorem excB_ok {C : PySem.W.Frag → Addr} {bm : PySem.W.Frag → List Value} {K : PySem.W.Frag} (h : excB C bm K = true) :
    ∃ (nm q : Str) (N : Addr) (bs : List Value) (sn : List Str) (su : List Value) (ab : Bool) (col : Option Bool) (dd : Option Addr) (u0 u1 u2 u3 u5 : Option Value), K.lookup (C K) = some (excClassObj nm q (C K) N bs (bm K) true sn su ab col dd u0 u1 u2 u3 u5 "ValueError.__new__") := by
  unfold excB at h
  split at h
  · rename_i t dd cd sl ho
    obtain ⟨h1, h⟩ := Bool.and_eq_true_iff.mp h
    obtain ⟨h2, h⟩ := Bool.and_eq_true_iff.mp h
    obtain ⟨h3, h⟩ := Bool.and_eq_true_iff.mp h
    obtain ⟨h4, h5⟩ := Bool.and_eq_true_iff.mp h
    obtain ⟨u0, u1, u2, u3, u5, e⟩ := slB_ok h2
    have h1 := of_decide_eq_true h1
    have h3 := of_decide_eq_true h3
    obtain ⟨c1, c2, c3, c4, c5, c6, c7, c8, c9, c10, c11⟩ := cd
    have k4 : c11 = false := by
      have z : (!c11) = true := h4
      simpa using z
    have k5 : c6 = true := h5
    have k3 : c3 = .ref (C K) :: bm K := h3
    clear h3 h4 h5 h
    subst h1 k3 k4 k5 e
    exact ⟨c1, c5, c4, c2, c7, c8, c9, c10, dd, u0, u1, u2, u3, u5, ho⟩
  · cases h
/-- an int of the module -/
def intB (x : Str) (i : Int) (K : PySem.W.Frag) : Bool := match PySem.W.nsIn K mainGlobals x with
  | some (some (.int j _)) => decide (j = i)
  | _ => false
theorem intB_ok {x : Str} {i : Int} {K : PySem.W.Frag} (h : intB x i K = true) : ∃ tk, PySem.W.nsIn K mainGlobals x = some (some (.int i tk)) := by
  unfold intB at h
  split at h
  · rename_i q
    rw [of_decide_eq_true h] at q
    exact ⟨_, q⟩
  · cases h
/-! ### the questions -/
def adr (g : Addr → Option Obj) (n : Nat) : List Addr := He.asD g n ++ [cStatics]
abbrev Al : Type := Bool × List Vw
def obsK (fs : List (List (PySem.W.Frag → Bool))) (fn : List Df) (K : PySem.W.Frag) : Al := (fs.all fun l => l.all fun f => f K, fn.map (Df.obs K))
def says (fs : List (List (PySem.W.Frag → Bool))) (fn : List Df) (K : PySem.W.Frag) : Prop := obsK fs fn K = (true, fn.map Df.val)
def obsG (n : Nat) (fs : List (List (PySem.W.Frag → Bool))) (fn : List Df) (g : Addr → Option Obj) : Al := obsK fs fn (He.frG g (adr g n))
def hook (n : Nat) (fs : List (List (PySem.W.Frag → Bool))) (fn : List Df) : PySem.W.Hook where
  α := Al
  obs := fun s => obsG n fs fn s.heap.get?
  val := fun _ => (true, fn.map Df.val)
  says := fun _ h => ∃ K : PySem.W.Frag, K.In h ∧ says fs fn K
  of := fun _ _ e => ⟨_, He.frG_in, e⟩
  keeps := fun _ _ _ ⟨K, hK, c⟩ k => ⟨K, PySem.W.Frag.In.keeps hK k, c⟩
theorem obsG_eq {n : Nat} {fs : List (List (PySem.W.Frag → Bool))} {fn : List Df} {g : Addr → Option Obj} {s : Shared} (h : ∀ a, g a = s.heap.get? a) : obsG n fs fn g = (hook n fs fn).obs s := by rw [show g = s.heap.get? from funext h]; rfl
section
variable {fs : List (List (PySem.W.Frag → Bool))} {fn : List Df} {K : PySem.W.Frag}
theorem fact (c : says fs fn K) {i j : Nat} {l : List (PySem.W.Frag → Bool)} {f : PySem.W.Frag → Bool} (h : fs[i]? = some l) (h2 : l[j]? = some f) : f K = true :=
  List.all_eq_true.mp (List.all_eq_true.mp (show (fs.all fun l => l.all fun f => f K) = true from congrArg (fun z : Al => z.1) c) l (List.mem_of_getElem? h)) f (List.mem_of_getElem? h2)
theorem dfn (c : says fs fn K) {i : Nat} {d : Df} (h : fn[i]? = some d) : d.obs K = d.val := by
  have e : fn.map (Df.obs K) = fn.map Df.val := congrArg (fun z : Al => z.2) c
  have e2 : (fn.map (Df.obs K))[i]? = (fn.map Df.val)[i]? := by rw [e]
  rw [List.getElem?_map, List.getElem?_map, h] at e2
  exact Option.some.inj e2
end
/-- the law, over such a head -/
theorem walk {l : PySem.W.OpenLaw} {n k : Nat} {q : Program} {loose : List Str} {XP : (Str → Option Value) → Heap → Prop} {YP : World → Heap → Prop} {d : DefRec} {CX : World → CXT} {x : Str} {sp : PySem.W.Frag → Sp}
    (hn : l.most = some n) (hn2 : n ≤ sizeLine) (hdf : d.params.defaults = []) (hr : Room k callerA)
    (F : ∀ (w : World) (mg : Str → Option Value) (fa : Addr) (h : Heap), YP w h → h.Ns mainGlobals mg → mg d.name = some (.ref fa) →
      ∃ K : PySem.W.Frag, K.In h ∧ ∃ fd : FuncData, (∀ (s : Shared) (u : Value), BindsTo s fd ⟨[u], []⟩ [(x, u)]) ∧ ∀ base : Heap, K.In base → base.Ns mainGlobals mg → FnOk l.prog w K mg base (CX w) k fa fd [x] (sp K))
    (hsp : ∀ (K : PySem.W.Frag) (H : Hp) (a : Addr) (ns : List Int), Only H → SqL K H a (ns.map V.int) → sp K [.ref a] H (fun v _ => v = .bl true) fun _ _ _ => False)
    (hCX : ∀ (w : World) (H : Hp) (s : Shared) (e : Value) (s' : Shared), CX w [] H s (fun _ _ _ => False) e s' → False) : PySem.W.WalkO q loose XP YP l.row.toRowW d [] (fun f vs => PySem.call f vs) :=
  Att.attach_call hn hdf fun w s₀ s₁ mg mb fa o pm cd doc a vs ns G Y ho hd hcd hmg hobj hints hlen hg => by
    obtain ⟨K, KX, fd, hb, hF⟩ := F w mg fa _ Y G.T.g hmg
    exact law_call KX G.T.g G.T.b G.T.builtins G.T.nolimit hg hobj hints (Nat.le_trans hlen hn2) hr hF hb (fun H hO hS => hsp K H a ns hO hS) fun H e s' => hCX w H s₁ e s'
end Hd

end
set_option Elab.async false
set_option linter.all false
set_option maxRecDepth 100000
set_option maxHeartbeats 400000
namespace Lk08
section
open PySem PySem.Spec PyProof.Rows L2
def top (i : Nat) : Stmt := PySem.Challenge.pw_everywrap_k08_polynomials.main.body.getD i (.Pass ⟨0, 0, 0, 0⟩)
abbrev Rw : PySem.W.OpenRow := PySem.W.OpenLaw.row PySem.Challenge.rw_everywrap_k08_polynomials
abbrev qv : Program := PySem.W.view Rw.prog [43]
def nm0 : List Str := ["comb", "WrapError", "InvalidCount", "InvalidPolynomial", "InvalidItems", "is_whole", "is_between", "is_line_of", "MOST_ITEMS", "MOST_DEGREE", "is_degrees", "is_polynomial_of", "is_polynomial", "check_items", "check_polynomial", "binomial", "weight_of", "value_in", "value_at", "_law_box", "_law_take", "_law_cell", "_law_same", "_law_copy", "_law_very", "_law_mixed", "_law_pick", "_law_lots", "_law_over", "_law_whole"]
def nm1 : List Str := ["_law_poly", "_law_value", "_law_is_poly", "_law_bent", "_law_asked", "_law_items", "_law_poly_right", "_law_refused_right"]
def names : List Str := nm0 ++ nm1
def fs0 : List (PySem.W.Frag → Bool) := [Hd.Df.ok (⟨("is_whole", none), "is_whole", "is_whole", defArgs (top 7), defBody (top 7), defScope (top 7), []⟩ : Hd.Df),
  Hd.Df.ok (⟨("is_between", none), "is_between", "is_between", defArgs (top 8), defBody (top 8), defScope (top 8), []⟩ : Hd.Df),
  Hd.Df.ok (⟨("is_line_of", none), "is_line_of", "is_line_of", defArgs (top 10), defBody (top 10), defScope (top 10), []⟩ : Hd.Df),
  Hd.Df.ok (⟨("is_degrees", none), "is_degrees", "is_degrees", defArgs (top 14), defBody (top 14), defScope (top 14), []⟩ : Hd.Df),
  Hd.Df.ok (⟨("is_polynomial_of", none), "is_polynomial_of", "is_polynomial_of", defArgs (top 15), defBody (top 15), defScope (top 15), []⟩ : Hd.Df),
  Hd.Df.ok (⟨("is_polynomial", none), "is_polynomial", "is_polynomial", defArgs (top 16), defBody (top 16), defScope (top 16), []⟩ : Hd.Df),
  Hd.Df.ok (⟨("check_items", none), "check_items", "check_items", defArgs (top 17), defBody (top 17), defScope (top 17), []⟩ : Hd.Df),
  Hd.Df.ok (⟨("check_polynomial", none), "check_polynomial", "check_polynomial", defArgs (top 18), defBody (top 18), defScope (top 18), []⟩ : Hd.Df),
  Hd.Df.ok (⟨("binomial", none), "binomial", "binomial", defArgs (top 19), defBody (top 19), defScope (top 19), []⟩ : Hd.Df),
  Hd.Df.ok (⟨("weight_of", none), "weight_of", "weight_of", defArgs (top 20), defBody (top 20), defScope (top 20), []⟩ : Hd.Df),
  Hd.Df.ok (⟨("value_in", none), "value_in", "value_in", defArgs (top 21), defBody (top 21), defScope (top 21), []⟩ : Hd.Df),
  Hd.Df.ok (⟨("value_at", none), "value_at", "value_at", defArgs (top 22), defBody (top 22), defScope (top 22), []⟩ : Hd.Df),
  Hd.Df.ok (⟨("_law_box", none), "_law_box", "_law_box", defArgs (top 24), defBody (top 24), defScope (top 24), []⟩ : Hd.Df),
  Hd.Df.ok (⟨("_law_take", none), "_law_take", "_law_take", defArgs (top 25), defBody (top 25), defScope (top 25), []⟩ : Hd.Df),
  Hd.Df.ok (⟨("_law_cell", none), "_law_cell", "_law_cell", defArgs (top 26), defBody (top 26), defScope (top 26), []⟩ : Hd.Df),
  Hd.Df.ok (⟨("_law_same", none), "_law_same", "_law_same", defArgs (top 27), defBody (top 27), defScope (top 27), []⟩ : Hd.Df),
  Hd.Df.ok (⟨("_law_copy", none), "_law_copy", "_law_copy", defArgs (top 28), defBody (top 28), defScope (top 28), []⟩ : Hd.Df),
  Hd.Df.ok (⟨("_law_very", none), "_law_very", "_law_very", defArgs (top 29), defBody (top 29), defScope (top 29), []⟩ : Hd.Df),
  Hd.Df.ok (⟨("_law_mixed", none), "_law_mixed", "_law_mixed", defArgs (top 30), defBody (top 30), defScope (top 30), []⟩ : Hd.Df),
  Hd.Df.ok (⟨("_law_pick", none), "_law_pick", "_law_pick", defArgs (top 31), defBody (top 31), defScope (top 31), []⟩ : Hd.Df),
  Hd.Df.ok (⟨("_law_lots", none), "_law_lots", "_law_lots", defArgs (top 32), defBody (top 32), defScope (top 32), []⟩ : Hd.Df),
  Hd.Df.ok (⟨("_law_over", none), "_law_over", "_law_over", defArgs (top 33), defBody (top 33), defScope (top 33), []⟩ : Hd.Df),
  Hd.Df.ok (⟨("_law_whole", none), "_law_whole", "_law_whole", defArgs (top 34), defBody (top 34), defScope (top 34), []⟩ : Hd.Df),
  Hd.Df.ok (⟨("_law_poly", none), "_law_poly", "_law_poly", defArgs (top 35), defBody (top 35), defScope (top 35), []⟩ : Hd.Df),
  Hd.Df.ok (⟨("_law_value", none), "_law_value", "_law_value", defArgs (top 36), defBody (top 36), defScope (top 36), []⟩ : Hd.Df)]
def fs1 : List (PySem.W.Frag → Bool) := [Hd.Df.ok (⟨("_law_is_poly", none), "_law_is_poly", "_law_is_poly", defArgs (top 37), defBody (top 37), defScope (top 37), []⟩ : Hd.Df),
  Hd.Df.ok (⟨("_law_bent", none), "_law_bent", "_law_bent", defArgs (top 38), defBody (top 38), defScope (top 38), []⟩ : Hd.Df),
  Hd.Df.ok (⟨("_law_asked", none), "_law_asked", "_law_asked", defArgs (top 39), defBody (top 39), defScope (top 39), []⟩ : Hd.Df),
  Hd.Df.ok (⟨("_law_items", none), "_law_items", "_law_items", defArgs (top 40), defBody (top 40), defScope (top 40), []⟩ : Hd.Df),
  Hd.Df.ok (⟨("_law_poly_right", none), "_law_poly_right", "_law_poly_right", defArgs (top 41), defBody (top 41), defScope (top 41), []⟩ : Hd.Df),
  Hd.Df.ok (⟨("_law_refused_right", none), "_law_refused_right", "_law_refused_right", defArgs (top 42), defBody (top 42), defScope (top 42), []⟩ : Hd.Df),
  Hd.Df.ok (⟨("law", none), "law", "law", defArgs (top 43), defBody (top 43), defScope (top 43), []⟩ : Hd.Df),
  Hd.intB "MOST_ITEMS" 2,
  Hd.intB "MOST_DEGREE" 6,
  Hd.excB (fun K => He.ga K "WrapError") (fun _ => Hd.veT),
  Hd.Df.ks (PySem.Challenge.rw_everywrap_k08_polynomials.prog.main.file : Str) true (fun K => He.ga K "WrapError") (⟨("WrapError", some "__init__"), "__init__", "WrapError.__init__", defArgs (Hd.initOf (top 2)), defBody (Hd.initOf (top 2)), defScope (Hd.initOf (top 2)), ["__class__"]⟩ : Hd.Df),
  Hd.excB (fun K => He.ga K "InvalidCount") (fun K => .ref (He.ga K "WrapError") :: Hd.veT),
  Hd.excB (fun K => He.ga K "InvalidPolynomial") (fun K => .ref (He.ga K "WrapError") :: Hd.veT),
  Hd.excB (fun K => He.ga K "InvalidItems") (fun K => .ref (He.ga K "WrapError") :: Hd.veT),
  fun K => decide (PySem.W.nsIn K mainGlobals "is_whole" = some (some (.ref (He.ga K "is_whole")))),
  fun K => decide (PySem.W.nsIn K mainGlobals "is_between" = some (some (.ref (He.ga K "is_between")))),
  fun K => decide (PySem.W.nsIn K mainGlobals "is_line_of" = some (some (.ref (He.ga K "is_line_of")))),
  fun K => decide (PySem.W.nsIn K mainGlobals "is_degrees" = some (some (.ref (He.ga K "is_degrees")))),
  fun K => decide (PySem.W.nsIn K mainGlobals "is_polynomial_of" = some (some (.ref (He.ga K "is_polynomial_of")))),
  fun K => decide (PySem.W.nsIn K mainGlobals "is_polynomial" = some (some (.ref (He.ga K "is_polynomial")))),
  fun K => decide (PySem.W.nsIn K mainGlobals "check_items" = some (some (.ref (He.ga K "check_items")))),
  fun K => decide (PySem.W.nsIn K mainGlobals "check_polynomial" = some (some (.ref (He.ga K "check_polynomial")))),
  fun K => decide (PySem.W.nsIn K mainGlobals "binomial" = some (some (.ref (He.ga K "binomial")))),
  fun K => decide (PySem.W.nsIn K mainGlobals "weight_of" = some (some (.ref (He.ga K "weight_of")))),
  fun K => decide (PySem.W.nsIn K mainGlobals "value_in" = some (some (.ref (He.ga K "value_in"))))]
def fs2 : List (PySem.W.Frag → Bool) := [fun K => decide (PySem.W.nsIn K mainGlobals "value_at" = some (some (.ref (He.ga K "value_at")))),
  fun K => decide (PySem.W.nsIn K mainGlobals "_law_box" = some (some (.ref (He.ga K "_law_box")))),
  fun K => decide (PySem.W.nsIn K mainGlobals "_law_take" = some (some (.ref (He.ga K "_law_take")))),
  fun K => decide (PySem.W.nsIn K mainGlobals "_law_cell" = some (some (.ref (He.ga K "_law_cell")))),
  fun K => decide (PySem.W.nsIn K mainGlobals "_law_same" = some (some (.ref (He.ga K "_law_same")))),
  fun K => decide (PySem.W.nsIn K mainGlobals "_law_copy" = some (some (.ref (He.ga K "_law_copy")))),
  fun K => decide (PySem.W.nsIn K mainGlobals "_law_very" = some (some (.ref (He.ga K "_law_very")))),
  fun K => decide (PySem.W.nsIn K mainGlobals "_law_mixed" = some (some (.ref (He.ga K "_law_mixed")))),
  fun K => decide (PySem.W.nsIn K mainGlobals "_law_pick" = some (some (.ref (He.ga K "_law_pick")))),
  fun K => decide (PySem.W.nsIn K mainGlobals "_law_lots" = some (some (.ref (He.ga K "_law_lots")))),
  fun K => decide (PySem.W.nsIn K mainGlobals "_law_over" = some (some (.ref (He.ga K "_law_over")))),
  fun K => decide (PySem.W.nsIn K mainGlobals "_law_whole" = some (some (.ref (He.ga K "_law_whole")))),
  fun K => decide (PySem.W.nsIn K mainGlobals "_law_poly" = some (some (.ref (He.ga K "_law_poly")))),
  fun K => decide (PySem.W.nsIn K mainGlobals "_law_value" = some (some (.ref (He.ga K "_law_value")))),
  fun K => decide (PySem.W.nsIn K mainGlobals "_law_is_poly" = some (some (.ref (He.ga K "_law_is_poly")))),
  fun K => decide (PySem.W.nsIn K mainGlobals "_law_bent" = some (some (.ref (He.ga K "_law_bent")))),
  fun K => decide (PySem.W.nsIn K mainGlobals "_law_asked" = some (some (.ref (He.ga K "_law_asked")))),
  fun K => decide (PySem.W.nsIn K mainGlobals "_law_items" = some (some (.ref (He.ga K "_law_items")))),
  fun K => decide (PySem.W.nsIn K mainGlobals "_law_poly_right" = some (some (.ref (He.ga K "_law_poly_right")))),
  fun K => decide (PySem.W.nsIn K mainGlobals "_law_refused_right" = some (some (.ref (He.ga K "_law_refused_right")))),
  fun K => decide (PySem.W.nsIn K mainGlobals "law" = some (some (.ref (He.ga K "law")))),
  fun K => decide (PySem.W.nsIn K mainGlobals "isinstance" = some none),
  fun K => decide (PySem.W.nsIn K mainGlobals "int" = some none),
  fun K => decide (PySem.W.nsIn K mainGlobals "bool" = some none),
  fun K => decide (PySem.W.nsIn K mainGlobals "str" = some none)]
def fs3 : List (PySem.W.Frag → Bool) := [fun K => decide (PySem.W.nsIn K mainGlobals "list" = some none),
  fun K => decide (PySem.W.nsIn K mainGlobals "tuple" = some none),
  fun K => decide (PySem.W.nsIn K mainGlobals "dict" = some none),
  fun K => decide (PySem.W.nsIn K mainGlobals "len" = some none),
  fun K => decide (PySem.W.nsIn K mainGlobals "all" = some none),
  fun K => decide (PySem.W.nsIn K mainGlobals "sum" = some none),
  fun K => decide (PySem.W.nsIn K mainGlobals "zip" = some none),
  fun K => decide (PySem.W.nsIn K mainGlobals "range" = some none),
  fun K => decide (PySem.W.nsIn K mainGlobals "abs" = some none),
  fun K => decide (PySem.W.nsIn K mainGlobals "max" = some none),
  fun K => decide (PySem.W.nsIn K mainGlobals "min" = some none),
  fun K => decide (PySem.W.nsIn K mainGlobals "sorted" = some none),
  fun K => decide (PySem.W.nsIn K mainGlobals "set" = some none),
  fun K => decide (PySem.W.nsIn K mainGlobals "comb" = some (some (.builtin "math.comb"))),
  fun K => decide (PySem.W.nsIn K mainGlobals "WrapError" = some (some (.ref (He.ga K "WrapError")))),
  fun K => decide (PySem.W.findIn K (.ref (He.ga K "WrapError")) "__init__" = some (some (.ref (He.ma K (He.ga K "WrapError") "__init__")))),
  fun K => decide (PySem.W.nsIn K mainGlobals "super" = some none),
  fun K => decide (PySem.W.nsIn K cStatics "thirdparty.any" = some none),
  fun K => decide (PySem.W.nsIn K mainGlobals "InvalidCount" = some (some (.ref (He.ga K "InvalidCount")))),
  fun K => decide (PySem.W.findIn K (.ref (He.ga K "InvalidCount")) "__setattr__" = some (some (.builtin "object.__setattr__"))),
  fun K => decide (PySem.W.findIn K (.ref (He.ga K "InvalidCount")) "given" = some none),
  fun K => decide (PySem.W.findIn K (.ref (He.ga K "InvalidCount")) "__init__" = some (some (.ref (He.ma K (He.ga K "WrapError") "__init__")))),
  fun K => PySem.W.keepIn K (.ref (He.ga K "InvalidCount")),
  fun K => decide (PySem.W.subIn K (.ref (He.ga K "InvalidCount")) (.type "BaseException") = some true),
  fun K => decide (PySem.W.subIn K (.ref (He.ga K "InvalidCount")) (.type "ValueError") = some true)]
def fs4 : List (PySem.W.Frag → Bool) := [fun K => decide (PySem.W.typeIn K (.ref (He.ga K "InvalidCount")) = some (.type "type")),
  fun K => decide ((He.ga K "InvalidCount") ≠ (He.ga K "WrapError")),
  fun K => decide (PySem.W.findIn K (.ref (He.ga K "InvalidCount")) "__getattribute__" = some (some (.builtin "BaseException.__getattribute__"))),
  fun K => decide (PySem.W.findIn K (.ref (He.ga K "InvalidCount")) "__getattr__" = some none),
  fun K => PySem.W.hasDictIn K (He.ga K "InvalidCount"),
  fun K => PySem.W.isClsIn K (He.ga K "InvalidCount"),
  fun K => decide (PySem.W.nsIn K mainGlobals "InvalidPolynomial" = some (some (.ref (He.ga K "InvalidPolynomial")))),
  fun K => decide (PySem.W.findIn K (.ref (He.ga K "InvalidPolynomial")) "__setattr__" = some (some (.builtin "object.__setattr__"))),
  fun K => decide (PySem.W.findIn K (.ref (He.ga K "InvalidPolynomial")) "given" = some none),
  fun K => decide (PySem.W.findIn K (.ref (He.ga K "InvalidPolynomial")) "__init__" = some (some (.ref (He.ma K (He.ga K "WrapError") "__init__")))),
  fun K => PySem.W.keepIn K (.ref (He.ga K "InvalidPolynomial")),
  fun K => decide (PySem.W.subIn K (.ref (He.ga K "InvalidPolynomial")) (.type "BaseException") = some true),
  fun K => decide (PySem.W.subIn K (.ref (He.ga K "InvalidPolynomial")) (.type "ValueError") = some true),
  fun K => decide (PySem.W.typeIn K (.ref (He.ga K "InvalidPolynomial")) = some (.type "type")),
  fun K => decide ((He.ga K "InvalidPolynomial") ≠ (He.ga K "WrapError")),
  fun K => decide (PySem.W.findIn K (.ref (He.ga K "InvalidPolynomial")) "__getattribute__" = some (some (.builtin "BaseException.__getattribute__"))),
  fun K => decide (PySem.W.findIn K (.ref (He.ga K "InvalidPolynomial")) "__getattr__" = some none),
  fun K => PySem.W.hasDictIn K (He.ga K "InvalidPolynomial"),
  fun K => PySem.W.isClsIn K (He.ga K "InvalidPolynomial"),
  fun K => decide (PySem.W.nsIn K mainGlobals "InvalidItems" = some (some (.ref (He.ga K "InvalidItems")))),
  fun K => decide (PySem.W.findIn K (.ref (He.ga K "InvalidItems")) "__setattr__" = some (some (.builtin "object.__setattr__"))),
  fun K => decide (PySem.W.findIn K (.ref (He.ga K "InvalidItems")) "given" = some none),
  fun K => decide (PySem.W.findIn K (.ref (He.ga K "InvalidItems")) "__init__" = some (some (.ref (He.ma K (He.ga K "WrapError") "__init__")))),
  fun K => PySem.W.keepIn K (.ref (He.ga K "InvalidItems")),
  fun K => decide (PySem.W.subIn K (.ref (He.ga K "InvalidItems")) (.type "BaseException") = some true)]
def fs5 : List (PySem.W.Frag → Bool) := [fun K => decide (PySem.W.subIn K (.ref (He.ga K "InvalidItems")) (.type "ValueError") = some true),
  fun K => decide (PySem.W.typeIn K (.ref (He.ga K "InvalidItems")) = some (.type "type")),
  fun K => decide ((He.ga K "InvalidItems") ≠ (He.ga K "WrapError")),
  fun K => decide (PySem.W.findIn K (.ref (He.ga K "InvalidItems")) "__getattribute__" = some (some (.builtin "BaseException.__getattribute__"))),
  fun K => decide (PySem.W.findIn K (.ref (He.ga K "InvalidItems")) "__getattr__" = some none),
  fun K => PySem.W.hasDictIn K (He.ga K "InvalidItems"),
  fun K => PySem.W.isClsIn K (He.ga K "InvalidItems"),
  fun K => decide (PySem.W.typeIn K (.ref (He.ma K (He.ga K "WrapError") "__init__")) = some (.type "function")),
  fun K => decide (PySem.W.subIn K (.ref (He.ga K "InvalidCount")) (.ref (He.ga K "InvalidCount")) = some true),
  fun K => decide (PySem.W.subIn K (.ref (He.ga K "InvalidCount")) (.ref (He.ga K "InvalidPolynomial")) = some false),
  fun K => decide (PySem.W.subIn K (.ref (He.ga K "InvalidCount")) (.ref (He.ga K "InvalidItems")) = some false),
  fun K => decide (PySem.W.subIn K (.ref (He.ga K "InvalidPolynomial")) (.ref (He.ga K "InvalidCount")) = some false),
  fun K => decide (PySem.W.subIn K (.ref (He.ga K "InvalidPolynomial")) (.ref (He.ga K "InvalidPolynomial")) = some true),
  fun K => decide (PySem.W.subIn K (.ref (He.ga K "InvalidPolynomial")) (.ref (He.ga K "InvalidItems")) = some false),
  fun K => decide (PySem.W.subIn K (.ref (He.ga K "InvalidItems")) (.ref (He.ga K "InvalidCount")) = some false),
  fun K => decide (PySem.W.subIn K (.ref (He.ga K "InvalidItems")) (.ref (He.ga K "InvalidPolynomial")) = some false),
  fun K => decide (PySem.W.subIn K (.ref (He.ga K "InvalidItems")) (.ref (He.ga K "InvalidItems")) = some true)]
def fs : List (List (PySem.W.Frag → Bool)) := [fs0, fs1, fs2, fs3, fs4, fs5]
def fnl : List Hd.Df := [(⟨("is_whole", none), "is_whole", "is_whole", defArgs (top 7), defBody (top 7), defScope (top 7), []⟩ : Hd.Df),
  (⟨("is_between", none), "is_between", "is_between", defArgs (top 8), defBody (top 8), defScope (top 8), []⟩ : Hd.Df),
  (⟨("is_line_of", none), "is_line_of", "is_line_of", defArgs (top 10), defBody (top 10), defScope (top 10), []⟩ : Hd.Df),
  (⟨("is_degrees", none), "is_degrees", "is_degrees", defArgs (top 14), defBody (top 14), defScope (top 14), []⟩ : Hd.Df),
  (⟨("is_polynomial_of", none), "is_polynomial_of", "is_polynomial_of", defArgs (top 15), defBody (top 15), defScope (top 15), []⟩ : Hd.Df),
  (⟨("is_polynomial", none), "is_polynomial", "is_polynomial", defArgs (top 16), defBody (top 16), defScope (top 16), []⟩ : Hd.Df),
  (⟨("check_items", none), "check_items", "check_items", defArgs (top 17), defBody (top 17), defScope (top 17), []⟩ : Hd.Df),
  (⟨("check_polynomial", none), "check_polynomial", "check_polynomial", defArgs (top 18), defBody (top 18), defScope (top 18), []⟩ : Hd.Df),
  (⟨("binomial", none), "binomial", "binomial", defArgs (top 19), defBody (top 19), defScope (top 19), []⟩ : Hd.Df),
  (⟨("weight_of", none), "weight_of", "weight_of", defArgs (top 20), defBody (top 20), defScope (top 20), []⟩ : Hd.Df),
  (⟨("value_in", none), "value_in", "value_in", defArgs (top 21), defBody (top 21), defScope (top 21), []⟩ : Hd.Df),
  (⟨("value_at", none), "value_at", "value_at", defArgs (top 22), defBody (top 22), defScope (top 22), []⟩ : Hd.Df),
  (⟨("_law_box", none), "_law_box", "_law_box", defArgs (top 24), defBody (top 24), defScope (top 24), []⟩ : Hd.Df),
  (⟨("_law_take", none), "_law_take", "_law_take", defArgs (top 25), defBody (top 25), defScope (top 25), []⟩ : Hd.Df),
  (⟨("_law_cell", none), "_law_cell", "_law_cell", defArgs (top 26), defBody (top 26), defScope (top 26), []⟩ : Hd.Df),
  (⟨("_law_same", none), "_law_same", "_law_same", defArgs (top 27), defBody (top 27), defScope (top 27), []⟩ : Hd.Df),
  (⟨("_law_copy", none), "_law_copy", "_law_copy", defArgs (top 28), defBody (top 28), defScope (top 28), []⟩ : Hd.Df),
  (⟨("_law_very", none), "_law_very", "_law_very", defArgs (top 29), defBody (top 29), defScope (top 29), []⟩ : Hd.Df),
  (⟨("_law_mixed", none), "_law_mixed", "_law_mixed", defArgs (top 30), defBody (top 30), defScope (top 30), []⟩ : Hd.Df),
  (⟨("_law_pick", none), "_law_pick", "_law_pick", defArgs (top 31), defBody (top 31), defScope (top 31), []⟩ : Hd.Df),
  (⟨("_law_lots", none), "_law_lots", "_law_lots", defArgs (top 32), defBody (top 32), defScope (top 32), []⟩ : Hd.Df),
  (⟨("_law_over", none), "_law_over", "_law_over", defArgs (top 33), defBody (top 33), defScope (top 33), []⟩ : Hd.Df),
  (⟨("_law_whole", none), "_law_whole", "_law_whole", defArgs (top 34), defBody (top 34), defScope (top 34), []⟩ : Hd.Df),
  (⟨("_law_poly", none), "_law_poly", "_law_poly", defArgs (top 35), defBody (top 35), defScope (top 35), []⟩ : Hd.Df),
  (⟨("_law_value", none), "_law_value", "_law_value", defArgs (top 36), defBody (top 36), defScope (top 36), []⟩ : Hd.Df),
  (⟨("_law_is_poly", none), "_law_is_poly", "_law_is_poly", defArgs (top 37), defBody (top 37), defScope (top 37), []⟩ : Hd.Df),
  (⟨("_law_bent", none), "_law_bent", "_law_bent", defArgs (top 38), defBody (top 38), defScope (top 38), []⟩ : Hd.Df),
  (⟨("_law_asked", none), "_law_asked", "_law_asked", defArgs (top 39), defBody (top 39), defScope (top 39), []⟩ : Hd.Df),
  (⟨("_law_items", none), "_law_items", "_law_items", defArgs (top 40), defBody (top 40), defScope (top 40), []⟩ : Hd.Df),
  (⟨("_law_poly_right", none), "_law_poly_right", "_law_poly_right", defArgs (top 41), defBody (top 41), defScope (top 41), []⟩ : Hd.Df),
  (⟨("_law_refused_right", none), "_law_refused_right", "_law_refused_right", defArgs (top 42), defBody (top 42), defScope (top 42), []⟩ : Hd.Df),
  (⟨("law", none), "law", "law", defArgs (top 43), defBody (top 43), defScope (top 43), []⟩ : Hd.Df),
  (⟨("WrapError", some "__init__"), "__init__", "WrapError.__init__", defArgs (Hd.initOf (top 2)), defBody (Hd.initOf (top 2)), defScope (Hd.initOf (top 2)), ["__class__"]⟩ : Hd.Df)]
def ob (s : PySem.W.SharedT) : Hd.Al := Hd.obsG 4 fs fnl (HandSHeadRun.getT s)
theorem ob_eq (s : PySem.W.SharedT) : ob s = (Hd.hook 4 fs fnl).obs s.abs := Hd.obsG_eq (HandSHeadRun.getT_eq s)
set_option maxHeartbeats 0 in
theorem run (w : World) : HandSHeadRun.RunEqI Rw qv (Hd.hook 4 fs fnl) ob 4000 names w := by
  unfold HandSHeadRun.RunEqI
  kernel_rfl
end
end Lk08
section
set_option Elab.async false
set_option linter.all false
set_option maxRecDepth 100000
set_option maxHeartbeats 1000000
/-! EwA: values as data over the layer: frames, data, types of values, typed slots, typed readings. -/
namespace Ew
open PySem PySem.Spec PyProof.Rows L2

/-! ### boxes and frames -/
/-- the shape of a box of draws -/
def BxL (xs : List V) : Prop := ∃ (g : Int) (b : Bool) (c n : Int), xs = [.int g, .bl b, .int c, .int n] ∧ 0 ≤ c ∧ c < 2147483629
def BoxAt (H : Hp) (a : Addr) : Prop := ∃ xs, H a = some (.lst xs) ∧ BxL xs
/-- everything stands as it stood; the boxes at B may have turned -/
def Ex (B : Addr → Prop) (H H' : Hp) : Prop := ∀ a o, H a = some o → H' a = some o ∨ (B a ∧ BoxAt H a ∧ BoxAt H' a)
section
variable {B : Addr → Prop} {H H1 H2 H3 : Hp} {a p : Addr} {o : HO} {K : PySem.W.Frag} {xs : List V}
theorem Ex.refl (B : Addr → Prop) (H : Hp) : Ex B H H := fun _ _ h => .inl h
theorem Ex.trans (e : Ex B H1 H2) (f : Ex B H2 H3) : Ex B H1 H3 := fun a o h => by
  rcases e a o h with q | ⟨b, q1, q2⟩
  · rcases f a o q with r | ⟨b, r1, r2⟩
    · exact .inl r
    · refine .inr ⟨b, ?_, r2⟩
      obtain ⟨xs, r1, r3⟩ := r1
      rw [q] at r1; cases r1
      exact ⟨xs, h, r3⟩
  · obtain ⟨ys, q3, q4⟩ := q2
    rcases f a _ q3 with r | ⟨_, r1, r2⟩
    · exact .inr ⟨b, q1, ys, r, q4⟩
    · exact .inr ⟨b, q1, r2⟩
theorem Ex.keep (e : Ex B H1 H2) (h : H1 a = some o) (n : ¬ B a) : H2 a = some o := (e a o h).elim id fun q => absurd q.1 n
theorem Ex.keepT (e : Ex B H1 H2) (h : H1 a = some o) (n : ∀ xs, o ≠ .lst xs) : H2 a = some o := (e a o h).elim id fun q => by
  obtain ⟨_, ⟨xs, q, _⟩, _⟩ := q
  rw [h] at q; cases q
  exact absurd rfl (n xs)
theorem Ex.free (e : Ex B H1 H2) (h : H2 p = none) : H1 p = none := by
  cases q : H1 p with
  | none => rfl
  | some o =>
    rcases e p o q with r | ⟨_, _, _, r, _⟩
    · rw [r] at h; cases h
    · rw [r] at h; cases h
theorem Ex.new (h : H p = none) : Ex B H (upd H p o) := fun b u e => .inl (by rw [upd_ne (ne_of_none e h)]; exact e)
/-- an object that was not there at H1 is changed -/
theorem Ex.mut (e : Ex B H1 H2) (h : H1 p = none) : Ex B H1 (upd H2 p o) := fun b u q => by
  have nb := ne_of_none q h
  rcases e b u q with r | ⟨x, r1, r2⟩
  · exact .inl (by rw [upd_ne nb]; exact r)
  · refine .inr ⟨x, r1, ?_⟩
    obtain ⟨ys, r3, r4⟩ := r2
    exact ⟨ys, by rw [upd_ne nb]; exact r3, r4⟩
theorem Ex.box (e : Ex B H1 H2) (h : BoxAt H1 a) : BoxAt H2 a := by
  obtain ⟨xs, h1, h2⟩ := h
  rcases e a _ h1 with r | ⟨_, _, r⟩
  · exact ⟨xs, r, h2⟩
  · exact r
/-- the box itself is changed -/
theorem Ex.turn (b : B p) (h : BoxAt H p) (n : BxL xs) : Ex B H (upd H p (.lst xs)) := fun c u q => by
  by_cases e : c = p
  · subst e
    exact .inr ⟨b, h, xs, upd_same, n⟩
  · exact .inl (by rw [upd_ne e]; exact q)
theorem Ex.sqT (e : Ex B H1 H2) (h : SqT K H1 a xs) : SqT K H2 a xs := by
  rcases h with (h | ⟨o, h⟩) | h
  · exact .inl (.inl (e.keepT h fun _ z => nomatch z))
  · exact .inl (.inr ⟨o, e.keepT h fun _ z => nomatch z⟩)
  · exact .inr h
theorem Ex.sqL (e : Ex B H1 H2) (n : ¬ B a) (h : SqL K H1 a xs) : SqL K H2 a xs := by
  rcases h with (h | ⟨o, h⟩) | h
  · exact .inl (.inl (e.keep h n))
  · exact .inl (.inr ⟨o, e.keep h n⟩)
  · exact .inr h
theorem Ex.sub {B' : Addr → Prop} (e : Ex B H1 H2) (s : ∀ a, B a → B' a) : Ex B' H1 H2 := fun a o h => (e a o h).imp id fun q => ⟨s a q.1, q.2⟩
end

/-- .. and what is under construction at M may have changed -/
def Exm (M B : Addr → Prop) (H H' : Hp) : Prop := ∀ a o, H a = some o → H' a = some o ∨ (M a ∧ (∃ xs, o = .lst xs) ∧ (∃ ys, H' a = some (.lst ys)) ∧ (B a → BoxAt H a → BoxAt H' a))
section
variable {M B : Addr → Prop} {H H1 H2 H3 : Hp} {a p D : Addr} {o : HO} {K : PySem.W.Frag} {xs ys : List V}
theorem Ex.toM (e : Ex B H1 H2) (s : ∀ a, B a → M a) : Exm M B H1 H2 := fun a o h => (e a o h).imp id fun ⟨b, ⟨xs, q1, q2⟩, q3⟩ => ⟨s a b, ⟨xs, by rw [h] at q1; exact Option.some.inj q1⟩, let ⟨ys, r, _⟩ := q3; ⟨ys, r⟩, fun _ _ => q3⟩
theorem Exm.keep (e : Exm M B H1 H2) (h : H1 a = some o) (n : ¬ M a) : H2 a = some o := (e a o h).elim id fun q => absurd q.1 n
theorem Exm.keepT (e : Exm M B H1 H2) (h : H1 a = some o) (n : ∀ xs, o ≠ .lst xs) : H2 a = some o := (e a o h).elim id fun ⟨_, ⟨xs, q⟩, _⟩ => absurd q (n xs)
theorem Exm.box (e : Exm M B H1 H2) (b : B a) (h : BoxAt H1 a) : BoxAt H2 a := by
  obtain ⟨xs, h1, h2⟩ := h
  rcases e a _ h1 with r | ⟨_, _, _, r⟩
  · exact ⟨xs, r, h2⟩
  · exact r b ⟨xs, h1, h2⟩
theorem Exm.sqT (e : Exm M B H1 H2) (h : SqT K H1 a xs) : SqT K H2 a xs := by
  rcases h with (h | ⟨o, h⟩) | h
  · exact .inl (.inl (e.keepT h fun _ z => nomatch z))
  · exact .inl (.inr ⟨o, e.keepT h fun _ z => nomatch z⟩)
  · exact .inr h
theorem Exm.sqL (e : Exm M B H1 H2) (n : ¬ M a) (h : SqL K H1 a xs) : SqL K H2 a xs := by
  rcases h with (h | ⟨o, h⟩) | h
  · exact .inl (.inl (e.keep h n))
  · exact .inl (.inr ⟨o, e.keep h n⟩)
  · exact .inr h
/-- a list under construction is written -/
theorem Exm.put (m : M D) (b : ¬ B D) (h : H D = some (.lst xs)) : Exm M B H (upd H D (.lst ys)) := fun c u q => by
  by_cases e : c = D
  · subst e
    rw [h] at q; cases q
    exact .inr ⟨m, ⟨xs, rfl⟩, ⟨ys, upd_same⟩, fun z => absurd z b⟩
  · exact .inl (by rw [upd_ne e]; exact q)
end
/-- M and D -/
def ad (M : Addr → Prop) (D : Addr) : Addr → Prop := fun a => M a ∨ a = D

/-! ### data -/
def kD : Key → PyData
  | .inl i => .int i
  | .inr x => .str x
mutual
/-- the value is the data; its lists are no boxes of B -/
inductive Rp (M : Addr → Prop) (K : PySem.W.Frag) (H : Hp) : V → PyData → Prop
  | non : Rp M K H .non .none
  | bl (b : Bool) : Rp M K H (.bl b) (.bool b)
  | int (i : Int) : Rp M K H (.int i) (.int i)
  | str (x : Str) : Rp M K H (.str x) (.str x)
  | lst {a : Addr} {xs : List V} {ds : List PyData} : H a = some (.lst xs) → ¬ M a → RpA M K H xs ds → Rp M K H (.ref a) (.list ds)
  | tup {a : Addr} {xs : List V} {ds : List PyData} : SqT K H a xs → RpA M K H xs ds → Rp M K H (.ref a) (.tuple ds)
  | dic {a : Addr} {kvs : List (Key × V)} {ds : List (PyData × PyData)} : H a = some (.dK kvs) → RpK M K H kvs ds → Rp M K H (.ref a) (.dict ds)
inductive RpA (M : Addr → Prop) (K : PySem.W.Frag) (H : Hp) : List V → List PyData → Prop
  | nil : RpA M K H [] []
  | cons {v : V} {vs : List V} {d : PyData} {ds : List PyData} : Rp M K H v d → RpA M K H vs ds → RpA M K H (v :: vs) (d :: ds)
inductive RpK (M : Addr → Prop) (K : PySem.W.Frag) (H : Hp) : List (Key × V) → List (PyData × PyData) → Prop
  | nil : RpK M K H [] []
  | cons {k : Key} {v : V} {vs : List (Key × V)} {d : PyData} {ds : List (PyData × PyData)} : Rp M K H v d → RpK M K H vs ds → RpK M K H ((k, v) :: vs) ((kD k, d) :: ds)
end
section
variable {M B : Addr → Prop} {K : PySem.W.Frag} {H H' : Hp}
mutual
theorem Rp.up (e : Exm M B H H') : ∀ {v : V} {d : PyData}, Rp M K H v d → Rp M K H' v d
  | _, _, .non => .non
  | _, _, .bl b => .bl b
  | _, _, .int i => .int i
  | _, _, .str x => .str x
  | _, _, .lst h n r => .lst (e.keep h n) n (RpA.up e r)
  | _, _, .tup h r => .tup (e.sqT h) (RpA.up e r)
  | _, _, .dic h r => .dic (e.keepT h fun _ z => nomatch z) (RpK.up e r)
theorem RpA.up (e : Exm M B H H') : ∀ {v : List V} {d : List PyData}, RpA M K H v d → RpA M K H' v d
  | _, _, .nil => .nil
  | _, _, .cons h r => .cons (Rp.up e h) (RpA.up e r)
theorem RpK.up (e : Exm M B H H') : ∀ {v : List (Key × V)} {d : List (PyData × PyData)}, RpK M K H v d → RpK M K H' v d
  | _, _, .nil => .nil
  | _, _, .cons h r => .cons (Rp.up e h) (RpK.up e r)
end
theorem RpA.length : ∀ {v : List V} {d : List PyData}, RpA M K H v d → v.length = d.length
  | _, _, .nil => rfl
  | _, _, .cons _ r => by rw [List.length_cons, List.length_cons, RpA.length r]
theorem RpA.get : ∀ {v : List V} {d : List PyData} {i : Nat} {x : V}, RpA M K H v d → v[i]? = some x → ∃ y, d[i]? = some y ∧ Rp M K H x y
  | _, _, _, _, .nil, e => by simp at e
  | _, _, 0, _, .cons h _, e => by simp at e; subst e; exact ⟨_, rfl, h⟩
  | _, _, i + 1, _, .cons _ r, e => by
    obtain ⟨y, h1, h2⟩ := RpA.get (i := i) r (by simpa using e)
    exact ⟨y, by simpa using h1, h2⟩
theorem RpA.getD : ∀ {v : List V} {d : List PyData} {i : Nat} {y : PyData}, RpA M K H v d → d[i]? = some y → ∃ x, v[i]? = some x ∧ Rp M K H x y
  | _, _, _, _, .nil, e => by simp at e
  | _, _, 0, _, .cons h _, e => by simp at e; subst e; exact ⟨_, rfl, h⟩
  | _, _, i + 1, _, .cons _ r, e => by
    obtain ⟨y, h1, h2⟩ := RpA.getD (i := i) r (by simpa using e)
    exact ⟨y, by simpa using h1, h2⟩
theorem RpA.append : ∀ {v w : List V} {d e : List PyData}, RpA M K H v d → RpA M K H w e → RpA M K H (v ++ w) (d ++ e)
  | _, _, _, _, .nil, s => s
  | _, _, _, _, .cons h r, s => .cons h (RpA.append r s)
mutual
theorem Rp.weak {D : Addr} (n : H D = none) : ∀ {v : V} {d : PyData}, Rp M K H v d → Rp (ad M D) K H v d
  | _, _, .non => .non
  | _, _, .bl b => .bl b
  | _, _, .int i => .int i
  | _, _, .str x => .str x
  | _, _, .lst h q r => .lst h (fun z => z.elim q (ne_of_none h n)) (RpA.weak n r)
  | _, _, .tup h r => .tup h (RpA.weak n r)
  | _, _, .dic h r => .dic h (RpK.weak n r)
theorem RpA.weak {D : Addr} (n : H D = none) : ∀ {v : List V} {d : List PyData}, RpA M K H v d → RpA (ad M D) K H v d
  | _, _, .nil => .nil
  | _, _, .cons h r => .cons (Rp.weak n h) (RpA.weak n r)
theorem RpK.weak {D : Addr} (n : H D = none) : ∀ {v : List (Key × V)} {d : List (PyData × PyData)}, RpK M K H v d → RpK (ad M D) K H v d
  | _, _, .nil => .nil
  | _, _, .cons h r => .cons (Rp.weak n h) (RpK.weak n r)
end
mutual
theorem Rp.drop {D : Addr} : ∀ {v : V} {d : PyData}, Rp (ad M D) K H v d → Rp M K H v d
  | _, _, .non => .non
  | _, _, .bl b => .bl b
  | _, _, .int i => .int i
  | _, _, .str x => .str x
  | _, _, .lst h q r => .lst h (fun z => q (.inl z)) (RpA.drop r)
  | _, _, .tup h r => .tup h (RpA.drop r)
  | _, _, .dic h r => .dic h (RpK.drop r)
theorem RpA.drop {D : Addr} : ∀ {v : List V} {d : List PyData}, RpA (ad M D) K H v d → RpA M K H v d
  | _, _, .nil => .nil
  | _, _, .cons h r => .cons (Rp.drop h) (RpA.drop r)
theorem RpK.drop {D : Addr} : ∀ {v : List (Key × V)} {d : List (PyData × PyData)}, RpK (ad M D) K H v d → RpK M K H v d
  | _, _, .nil => .nil
  | _, _, .cons h r => .cons (Rp.drop h) (RpK.drop r)
end
end

/-! ### types of values -/
structure Typ where
  p : (M B : Addr → Prop) → V → Hp → Prop
  up : ∀ {M B : Addr → Prop} {v : V} {H H' : Hp}, Exm M B H H' → p M B v H → p M B v H'
  weak : ∀ {M B : Addr → Prop} {v : V} {H : Hp} {D : Addr}, H D = none → p M B v H → p (ad M D) B v H
  drop : ∀ {M B : Addr → Prop} {v : V} {H : Hp} {D : Addr}, p (ad M D) B v H → p M B v H
/-- just the data d -/
def dt (K : PySem.W.Frag) (d : PyData) : Typ := ⟨fun M _ v H => Rp M K H v d, fun e h => Rp.up e h, fun n h => Rp.weak n h, fun h => Rp.drop h⟩
/-- just the value v -/
def isV (w : V) : Typ := ⟨fun _ _ v _ => v = w, fun _ h => h, fun _ h => h, fun h => h⟩
/-- a box -/
def bx : Typ := ⟨fun _ B v H => ∃ p, v = .ref p ∧ B p ∧ BoxAt H p, fun e ⟨p, h1, h2, h3⟩ => ⟨p, h1, h2, e.box h2 h3⟩, fun _ h => h, fun h => h⟩
def exT {α : Type} (A : α → Typ) : Typ := ⟨fun M B v H => ∃ x, (A x).p M B v H, fun e ⟨x, h⟩ => ⟨x, (A x).up e h⟩, fun n ⟨x, h⟩ => ⟨x, (A x).weak n h⟩, fun ⟨x, h⟩ => ⟨x, (A x).drop h⟩⟩
def gd (φ : Prop) (A : Typ) : Typ := ⟨fun M B v H => φ ∧ A.p M B v H, fun e ⟨h1, h2⟩ => ⟨h1, A.up e h2⟩, fun n ⟨h1, h2⟩ => ⟨h1, A.weak n h2⟩, fun ⟨h1, h2⟩ => ⟨h1, A.drop h2⟩⟩
def anT (A C : Typ) : Typ := ⟨fun M B v H => A.p M B v H ∧ C.p M B v H, fun e ⟨h1, h2⟩ => ⟨A.up e h1, C.up e h2⟩, fun n ⟨h1, h2⟩ => ⟨A.weak n h1, C.weak n h2⟩, fun ⟨h1, h2⟩ => ⟨A.drop h1, C.drop h2⟩⟩
section
variable {M B : Addr → Prop}
/-- values by types, one by one -/
def TysV (M B : Addr → Prop) : List Typ → List V → Hp → Prop
  | [], [], _ => True
  | T :: Ts, v :: vs, H => T.p M B v H ∧ TysV M B Ts vs H
  | _, _, _ => False
theorem TysV.up {H H' : Hp} (e : Exm M B H H') : ∀ {Ts : List Typ} {vs : List V}, TysV M B Ts vs H → TysV M B Ts vs H'
  | [], [], h => h
  | T :: _, _ :: _, h => ⟨T.up e h.1, TysV.up e h.2⟩
  | [], _ :: _, h => h.elim
  | _ :: _, [], h => h.elim
theorem TysV.weak {H : Hp} {D : Addr} (n : H D = none) : ∀ {Ts : List Typ} {vs : List V}, TysV M B Ts vs H → TysV (ad M D) B Ts vs H
  | [], [], h => h
  | T :: _, _ :: _, h => ⟨T.weak n h.1, TysV.weak n h.2⟩
  | [], _ :: _, h => h.elim
  | _ :: _, [], h => h.elim
theorem TysV.drop {H : Hp} {D : Addr} : ∀ {Ts : List Typ} {vs : List V}, TysV (ad M D) B Ts vs H → TysV M B Ts vs H
  | [], [], h => h
  | T :: _, _ :: _, h => ⟨T.drop h.1, TysV.drop h.2⟩
  | [], _ :: _, h => h.elim
  | _ :: _, [], h => h.elim
theorem TysV.length {H : Hp} : ∀ {Ts : List Typ} {vs : List V}, TysV M B Ts vs H → vs.length = Ts.length
  | [], [], _ => rfl
  | _ :: _, _ :: _, h => by rw [List.length_cons, List.length_cons, TysV.length h.2]
  | [], _ :: _, h => h.elim
  | _ :: _, [], h => h.elim
theorem TysV.append {H : Hp} : ∀ {Ts Us : List Typ} {vs ws : List V}, TysV M B Ts vs H → TysV M B Us ws H → TysV M B (Ts ++ Us) (vs ++ ws) H
  | [], _, [], _, _, h => h
  | _ :: _, _, _ :: _, _, h, k => ⟨h.1, TysV.append h.2 k⟩
  | [], _, _ :: _, _, h, _ => h.elim
  | _ :: _, _, [], _, h, _ => h.elim
theorem TysV.get {H : Hp} : ∀ {Ts : List Typ} {vs : List V} {i : Nat} {T : Typ}, TysV M B Ts vs H → Ts[i]? = some T → ∃ v, vs[i]? = some v ∧ T.p M B v H
  | T :: _, v :: _, 0, _, h, e => by simp at e; subst e; exact ⟨v, rfl, h.1⟩
  | _ :: _, _ :: _, i + 1, _, h, e => by
    obtain ⟨v, h1, h2⟩ := TysV.get (i := i) h.2 (by simpa using e)
    exact ⟨v, by simpa using h1, h2⟩
  | [], [], _, _, _, e => by simp at e
  | [], _ :: _, _, _, h, _ => h.elim
  | _ :: _, [], _, _, h, _ => h.elim
theorem TysV.data {K : PySem.W.Frag} {H : Hp} : ∀ {ds : List PyData} {vs : List V}, TysV M B (ds.map (dt K)) vs H → RpA M K H vs ds
  | [], [], _ => .nil
  | _ :: _, _ :: _, h => .cons h.1 (TysV.data h.2)
  | [], _ :: _, h => h.elim
  | _ :: _, [], h => h.elim
theorem TysV.ofData {K : PySem.W.Frag} {H : Hp} : ∀ {ds : List PyData} {vs : List V}, RpA M K H vs ds → TysV M B (ds.map (dt K)) vs H
  | [], [], _ => True.intro
  | _ :: _, _ :: _, .cons h r => ⟨h, TysV.ofData r⟩

/-! ### typed slots -/
abbrev Gam := List (Option Typ)
def EnvL (M B : Addr → Prop) : Gam → L2.St → Hp → Prop
  | [], [], _ => True
  | none :: Γ, _ :: σ, H => EnvL M B Γ σ H
  | some T :: Γ, some v :: σ, H => T.p M B v H ∧ EnvL M B Γ σ H
  | _, _, _ => False
theorem EnvL.up {H H' : Hp} (e : Exm M B H H') : ∀ {Γ : Gam} {σ : L2.St}, EnvL M B Γ σ H → EnvL M B Γ σ H'
  | [], [], h => h
  | none :: Γ, _ :: σ, h => EnvL.up (Γ := Γ) e h
  | some T :: _, some _ :: _, h => ⟨T.up e h.1, EnvL.up e h.2⟩
  | [], _ :: _, h => h.elim
  | none :: _, [], h => h.elim
  | some _ :: _, [], h => h.elim
  | some _ :: _, none :: _, h => h.elim
theorem EnvL.weak {H : Hp} {D : Addr} (n : H D = none) : ∀ {Γ : Gam} {σ : L2.St}, EnvL M B Γ σ H → EnvL (ad M D) B Γ σ H
  | [], [], h => h
  | none :: Γ, _ :: σ, h => EnvL.weak (Γ := Γ) n h
  | some T :: _, some _ :: _, h => ⟨T.weak n h.1, EnvL.weak n h.2⟩
  | [], _ :: _, h => h.elim
  | none :: _, [], h => h.elim
  | some _ :: _, [], h => h.elim
  | some _ :: _, none :: _, h => h.elim
theorem EnvL.drop {H : Hp} {D : Addr} : ∀ {Γ : Gam} {σ : L2.St}, EnvL (ad M D) B Γ σ H → EnvL M B Γ σ H
  | [], [], h => h
  | none :: Γ, _ :: σ, h => EnvL.drop (Γ := Γ) h
  | some T :: _, some _ :: _, h => ⟨T.drop h.1, EnvL.drop h.2⟩
  | [], _ :: _, h => h.elim
  | none :: _, [], h => h.elim
  | some _ :: _, [], h => h.elim
  | some _ :: _, none :: _, h => h.elim
theorem EnvL.length {H : Hp} : ∀ {Γ : Gam} {σ : L2.St}, EnvL M B Γ σ H → σ.length = Γ.length
  | [], [], _ => rfl
  | none :: Γ, _ :: σ, h => by rw [List.length_cons, List.length_cons, EnvL.length (Γ := Γ) h]
  | some T :: _, some _ :: _, h => by rw [List.length_cons, List.length_cons, EnvL.length h.2]
  | [], _ :: _, h => h.elim
  | none :: _, [], h => h.elim
  | some _ :: _, [], h => h.elim
  | some _ :: _, none :: _, h => h.elim
theorem EnvL.get {H : Hp} : ∀ {Γ : Gam} {σ : L2.St} {i : Nat} {T : Typ}, EnvL M B Γ σ H → Γ[i]? = some (some T) → ∃ v, σ[i]? = some (some v) ∧ T.p M B v H
  | some T :: _, some v :: _, 0, _, h, e => by simp at e; subst e; exact ⟨v, rfl, h.1⟩
  | none :: _, _ :: _, 0, _, _, e => by simp at e
  | none :: Γ, _ :: σ, i + 1, _, h, e => by
    obtain ⟨v, h1, h2⟩ := EnvL.get (Γ := Γ) (i := i) h (by simpa using e)
    exact ⟨v, by simpa using h1, h2⟩
  | some _ :: _, some _ :: _, i + 1, _, h, e => by
    obtain ⟨v, h1, h2⟩ := EnvL.get (i := i) h.2 (by simpa using e)
    exact ⟨v, by simpa using h1, h2⟩
  | [], [], _, _, _, e => by simp at e
  | [], _ :: _, _, _, h, _ => h.elim
  | none :: _, [], _, _, h, _ => h.elim
  | some _ :: _, [], _, _, h, _ => h.elim
  | some _ :: _, none :: _, _, _, h, _ => h.elim
theorem EnvL.set {H : Hp} {T : Typ} {v : V} (hv : T.p M B v H) : ∀ {Γ : Gam} {σ : L2.St} {i : Nat}, EnvL M B Γ σ H → EnvL M B (Γ.set i (some T)) (σ.set i (some v)) H
  | [], [], _, h => by simpa using h
  | none :: Γ, s :: σ, 0, h => ⟨hv, h⟩
  | some _ :: _, some _ :: _, 0, h => ⟨hv, h.2⟩
  | none :: Γ, none :: σ, i + 1, h => EnvL.set (Γ := Γ) (i := i) hv h
  | none :: Γ, some _ :: σ, i + 1, h => EnvL.set (Γ := Γ) (i := i) hv h
  | some _ :: _, some _ :: _, i + 1, h => ⟨h.1, EnvL.set (i := i) hv h.2⟩
  | [], _ :: _, _, h => h.elim
  | none :: _, [], _, h => h.elim
  | some _ :: _, [], _, h => h.elim
  | some _ :: _, none :: _, _, h => h.elim
theorem EnvL.wipe1 {H : Hp} : ∀ {Γ : Gam} {σ : L2.St} {i : Nat}, EnvL M B Γ σ H → EnvL M B (Γ.set i none) (σ.set i none) H
  | [], [], _, h => by simpa using h
  | none :: Γ, s :: σ, 0, h => h
  | some _ :: _, some _ :: _, 0, h => h.2
  | none :: Γ, none :: σ, i + 1, h => EnvL.wipe1 (Γ := Γ) (i := i) h
  | none :: Γ, some _ :: σ, i + 1, h => EnvL.wipe1 (Γ := Γ) (i := i) h
  | some _ :: _, some _ :: _, i + 1, h => ⟨h.1, EnvL.wipe1 (i := i) h.2⟩
  | [], _ :: _, _, h => h.elim
  | none :: _, [], _, h => h.elim
  | some _ :: _, [], _, h => h.elim
  | some _ :: _, none :: _, _, h => h.elim
def wipeG (Γ : Gam) : List Nat → Gam
  | [] => Γ
  | v :: vs => (wipeG Γ vs).set v none
theorem EnvL.wipe {H : Hp} {Γ : Gam} {σ : L2.St} (h : EnvL M B Γ σ H) : ∀ vs : List Nat, EnvL M B (wipeG Γ vs) (L2.wipe σ vs) H
  | [] => h
  | _ :: vs => EnvL.wipe1 (EnvL.wipe h vs)
/-- slots may be forgotten -/
def Less : Gam → Gam → Prop
  | [], [] => True
  | none :: Γ, _ :: Δ => Less Γ Δ
  | some T :: Γ, some U :: Δ => (∀ M B v H, U.p M B v H → T.p M B v H) ∧ Less Γ Δ
  | _, _ => False
theorem EnvL.less {H : Hp} : ∀ {Γ Δ : Gam} {σ : L2.St}, Less Γ Δ → EnvL M B Δ σ H → EnvL M B Γ σ H
  | [], [], [], _, _ => True.intro
  | none :: Γ, none :: Δ, _ :: σ, l, h => EnvL.less (Γ := Γ) (Δ := Δ) l h
  | none :: Γ, some _ :: Δ, some _ :: σ, l, h => EnvL.less (Γ := Γ) (Δ := Δ) l h.2
  | some _ :: Γ, some _ :: Δ, some _ :: σ, l, h => ⟨l.1 _ _ _ _ h.1, EnvL.less (Γ := Γ) (Δ := Δ) l.2 h.2⟩
  | [], [], _ :: _, _, h => h.elim
  | [], _ :: _, _, l, _ => l.elim
  | none :: _, [], _, l, _ => l.elim
  | some _ :: _, [], _, l, _ => l.elim
  | some _ :: _, none :: _, _, l, _ => l.elim
  | none :: _, none :: _, [], _, h => h.elim
  | none :: _, some _ :: _, [], _, h => h.elim
  | none :: _, some _ :: _, none :: _, _, h => h.elim
  | some _ :: _, some _ :: _, [], _, h => h.elim
  | some _ :: _, some _ :: _, none :: _, _, h => h.elim
theorem Less.refl : ∀ (Γ : Gam), Less Γ Γ
  | [] => True.intro
  | none :: Γ => Less.refl Γ
  | some _ :: Γ => ⟨fun _ _ _ _ h => h, Less.refl Γ⟩
end
end Ew

end
section
set_option Elab.async false
set_option linter.all false
set_option maxRecDepth 100000
set_option maxHeartbeats 1000000
/-! EwB: typed readings. -/
namespace Ew
open PySem PySem.Spec PyProof.Rows L2
abbrev Sx := L2.St
theorem Exm.refl (M B : Addr → Prop) (H : Hp) : Exm M B H H := fun _ _ h => .inl h
theorem Exm.trans {M B : Addr → Prop} {H1 H2 H3 : Hp} (e : Exm M B H1 H2) (f : Exm M B H2 H3) : Exm M B H1 H3 := fun a o h => by
  rcases e a o h with q | ⟨m, ⟨xs, rfl⟩, ⟨ys, q⟩, b⟩
  · exact f a o q |>.imp id fun ⟨m, x, y, b⟩ => ⟨m, x, y, fun z1 z2 => b z1 (by obtain ⟨xs, z3, z4⟩ := z2; rw [h] at z3; cases z3; exact ⟨xs, q, z4⟩)⟩
  · rcases f a _ q with r | ⟨_, _, y, b'⟩
    · exact .inr ⟨m, ⟨xs, rfl⟩, ⟨ys, r⟩, fun z1 z2 => by
        obtain ⟨zs, z3, z4⟩ := b z1 z2
        rw [q] at z3; cases z3
        exact ⟨ys, r, z4⟩⟩
    · exact .inr ⟨m, ⟨xs, rfl⟩, y, fun z1 z2 => b' z1 (b z1 z2)⟩
/-- the world of a def's body: M no data's own, B the boxes, H0 the heap at the entry, Ω what else stands while expressions are evaluated -/
structure Wd where
  M : Addr → Prop
  B : Addr → Prop
  H0 : Hp
  Ω : Hp → Prop
  sub : ∀ a, B a → M a
  kept : ∀ {H H' : Hp}, Ex B H H' → Ω H → Ω H'
structure Cxt (W : Wd) (H : Hp) : Prop where
  box : ∀ a, W.B a → BoxAt H a
  al : ∀ a, W.M a → H a ≠ none
  ex : Ex W.B W.H0 H
  own : W.Ω H
/-- what is made at D is under construction -/
def Wd.ad (W : Wd) (D : Addr) : Wd := ⟨Ew.ad W.M D, W.B, W.H0, W.Ω, fun a h => .inl (W.sub a h), W.kept⟩
abbrev Typ.at (T : Typ) (W : Wd) (v : V) (H : Hp) : Prop := T.p W.M W.B v H
section
variable {W : Wd} {H H' : Hp} {p : Addr}
theorem Ex.toW (e : Ex W.B H H') : Exm W.M W.B H H' := e.toM W.sub
theorem Cxt.up (c : Cxt W H) (e : Ex W.B H H') : Cxt W H' := ⟨fun a h => e.box (c.box a h), fun a h z => c.al a h (e.free z), c.ex.trans e, W.kept e c.own⟩
theorem Cxt.nm (c : Cxt W H) (h : H p = none) : ¬ W.M p := fun b => c.al p b h
theorem Cxt.nb (c : Cxt W H) (h : H p = none) : ¬ W.B p := fun b => c.nm h (W.sub p b)
end
section
variable (W : Wd) (Γ : Gam)
abbrev EnvW (σ : Sx) (H : Hp) : Prop := EnvL W.M W.B Γ σ H
def Ty (te : TE) (T : Typ) : Prop := ∀ σ H, Cxt W H → EnvW W Γ σ H → ∀ Q : VK, (∀ v H1, Ex W.B H H1 → T.at W v H1 → Q v H1) → te σ H Q
def TyA (ta : TA) (Ts : List Typ) : Prop := ∀ σ H, Cxt W H → EnvW W Γ σ H → ∀ Q : List V → Hp → Prop, (∀ vs H1, Ex W.B H H1 → TysV W.M W.B Ts vs H1 → Q vs H1) → ta σ H Q
/-- a new list -/
def TyL (te : TE) (Ts : List Typ) : Prop := ∀ σ H, Cxt W H → EnvW W Γ σ H → ∀ Q : VK, (∀ p xs H1, Ex W.B H H1 → H p = none → H1 p = some (.lst xs) → TysV W.M W.B Ts xs H1 → Q (.ref p) H1) → te σ H Q
def Tt (tt : TT) (φ : Bool → Prop) : Prop := ∀ σ H, Cxt W H → EnvW W Γ σ H → ∀ Q : Bool → Hp → Prop, (∀ b H1, Ex W.B H H1 → φ b → Q b H1) → tt σ H Q
def TyS (ts : TS) (N : Sx → Hp → Prop) (R : V → Hp → Prop) (Bk Ct : Sx → Hp → Prop) : Prop := ∀ σ H, Cxt W H → EnvW W Γ σ H → ∀ D : Ends, (∀ σ' H', Exm W.M W.B H H' → N σ' H' → D.nx σ' H') → (∀ v H', R v H' → D.rt v H') →
  (∀ σ' H', Exm W.M W.B H H' → Bk σ' H' → D.bk σ' H') → (∀ σ' H', Exm W.M W.B H H' → Ct σ' H' → D.ct σ' H') → ts D σ H
def OpT (r : R2) (A C P : Typ) : Prop := ∀ u v H, Cxt W H → A.at W u H → C.at W v H → ∀ Q : VK, (∀ w H1, Ex W.B H H1 → P.at W w H1 → Q w H1) → r u v H Q
def UnT (r : V → Hp → VK → Prop) (A P : Typ) : Prop := ∀ u H, Cxt W H → A.at W u H → ∀ Q : VK, (∀ w H1, Ex W.B H H1 → P.at W w H1 → Q w H1) → r u H Q
def CbT (r : List V → Hp → VK → Prop) (As : List Typ) (P : Typ) : Prop := ∀ us H, Cxt W H → TysV W.M W.B As us H → ∀ Q : VK, (∀ w H1, Ex W.B H H1 → P.at W w H1 → Q w H1) → r us H Q
/-- a new list comes -/
def CbL (r : List V → Hp → VK → Prop) (As Ts : List Typ) : Prop := ∀ us H, Cxt W H → TysV W.M W.B As us H → ∀ Q : VK, (∀ p xs H1, Ex W.B H H1 → H p = none → H1 p = some (.lst xs) → TysV W.M W.B Ts xs H1 → Q (.ref p) H1) → r us H Q
/-- slots by their types, in a world -/
def nE : Sx → Hp → Prop := fun σ H => Cxt W H ∧ EnvW W Γ σ H
end
/-- the same but for Ω -/
structure Wd.Like (W W' : Wd) : Prop where
  m : W'.M = W.M
  b : W'.B = W.B
theorem Wd.Like.refl (W : Wd) : W.Like W := ⟨rfl, rfl⟩
theorem Wd.Like.exm {W W' : Wd} (l : W.Like W') {H H' : Hp} (e : Exm W'.M W'.B H H') : Exm W.M W.B H H' := by rw [← l.m, ← l.b]; exact e
abbrev noN : Sx → Hp → Prop := fun _ _ => False
/-- a tuple, a list of values by their types -/
def tupT (K : PySem.W.Frag) (Ts : List Typ) : Typ := ⟨fun M B v H => ∃ a xs, v = .ref a ∧ SqT K H a xs ∧ TysV M B Ts xs H, fun e ⟨a, xs, h1, h2, h3⟩ => ⟨a, xs, h1, e.sqT h2, h3.up e⟩, fun n ⟨a, xs, h1, h2, h3⟩ => ⟨a, xs, h1, h2, h3.weak n⟩, fun ⟨a, xs, h1, h2, h3⟩ => ⟨a, xs, h1, h2, h3.drop⟩⟩
def lstT (Ts : List Typ) : Typ := ⟨fun M B v H => ∃ a xs, v = .ref a ∧ ¬ M a ∧ H a = some (.lst xs) ∧ TysV M B Ts xs H, fun e ⟨a, xs, h1, h0, h2, h3⟩ => ⟨a, xs, h1, h0, e.keep h2 h0, h3.up e⟩,
  fun n ⟨a, xs, h1, h0, h2, h3⟩ => ⟨a, xs, h1, fun z => z.elim h0 (ne_of_none h2 n), h2, h3.weak n⟩, fun ⟨a, xs, h1, h0, h2, h3⟩ => ⟨a, xs, h1, fun z => h0 (.inl z), h2, h3.drop⟩⟩
section
variable {W : Wd} {Γ : Gam} {K : PySem.W.Frag} {ta tb te tc : TE} {tl tr : TA} {tt tu : TT} {T U A C P : Typ} {Ts Us : List Typ} {r : R2} {φ ψ : Bool → Prop} {i : Nat} {ds es : List PyData} {d e : PyData}
theorem tupT_data {M B : Addr → Prop} {v : V} {H : Hp} (h : (tupT K (ds.map (dt K))).p M B v H) : (dt K (.tuple ds)).p M B v H := by
  obtain ⟨a, xs, rfl, h2, h3⟩ := h
  exact .tup h2 h3.data
theorem data_tupT {M B : Addr → Prop} {v : V} {H : Hp} (h : (dt K (.tuple ds)).p M B v H) : (tupT K (ds.map (dt K))).p M B v H := by
  cases h with
  | tup h2 h3 => exact ⟨_, _, rfl, h2, TysV.ofData h3⟩
theorem lstT_data {M B : Addr → Prop} {v : V} {H : Hp} (h : (lstT (ds.map (dt K))).p M B v H) : (dt K (.list ds)).p M B v H := by
  obtain ⟨a, xs, rfl, h0, h2, h3⟩ := h
  exact .lst h2 h0 h3.data
theorem data_lstT {M B : Addr → Prop} {v : V} {H : Hp} (h : (dt K (.list ds)).p M B v H) : (lstT (ds.map (dt K))).p M B v H := by
  cases h with
  | lst h2 h0 h3 => exact ⟨_, _, rfl, h0, h2, TysV.ofData h3⟩
/-! ### values -/
theorem Ty.sub (h : Ty W Γ te T) (k : ∀ v H, Cxt W H → T.at W v H → U.at W v H) : Ty W Γ te U := fun σ H c g Q q => h σ H c g Q fun v H1 e z => q v H1 e (k v H1 (c.up e) z)
theorem ty_var (h : Γ[i]? = some (some T)) : Ty W Γ (tVar i) T := fun σ H c g Q q => by
  obtain ⟨v, h1, h2⟩ := g.get h
  exact ⟨v, h1, q v H (Ex.refl W.B H) h2⟩
theorem ty_int {n : Int} : Ty W Γ (tC (.int n)) (dt K (.int n)) := fun σ H c g Q q => q _ H (Ex.refl W.B H) (.int n)
theorem ty_bl {b : Bool} : Ty W Γ (tC (.bl b)) (dt K (.bool b)) := fun σ H c g Q q => q _ H (Ex.refl W.B H) (.bl b)
theorem ty_non : Ty W Γ (tC .non) (dt K .none) := fun σ H c g Q q => q _ H (Ex.refl W.B H) .non
theorem ty_str {x : Str} : Ty W Γ (tC (.str x)) (dt K (.str x)) := fun σ H c g Q q => q _ H (Ex.refl W.B H) (.str x)
/-- a constant value: a class, a built-in class -/
theorem ty_c {v : V} : Ty W Γ (tC v) (isV v) := fun σ H c g Q q => q _ H (Ex.refl W.B H) rfl
theorem ty_op (ha : Ty W Γ ta A) (hb : Ty W Γ tb C) (ho : OpT W r A C P) : Ty W Γ (tOp r ta tb) P := fun σ H c g Q q =>
  ha σ H c g _ fun u H1 e1 h1 => hb σ H1 (c.up e1) (g.up e1.toW) _ fun v H2 e2 h2 => ho u v H2 (c.up (e1.trans e2)) (A.up e2.toW h1) h2 Q fun w H3 e3 h3 => q w H3 (e1.trans (e2.trans e3)) h3
theorem ty_un {r : V → Hp → VK → Prop} (ha : Ty W Γ ta A) (ho : UnT W r A P) : Ty W Γ (tUn r ta) P := fun σ H c g Q q =>
  ha σ H c g _ fun u H1 e1 h1 => ho u H1 (c.up e1) h1 Q fun w H3 e3 h3 => q w H3 (e1.trans e3) h3
theorem ty_cb {r : List V → Hp → VK → Prop} (ha : TyA W Γ tl Ts) (ho : CbT W r Ts P) : Ty W Γ (tCB r tl) P := fun σ H c g Q q =>
  ha σ H c g _ fun us H1 e1 h1 => ho us H1 (c.up e1) h1 Q fun w H3 e3 h3 => q w H3 (e1.trans e3) h3
theorem tyl_cb {r : List V → Hp → VK → Prop} (ha : TyA W Γ tl Ts) (ho : CbL W r Ts Us) : TyL W Γ (tCB r tl) Us := fun σ H c g Q q =>
  ha σ H c g _ fun us H1 e1 h1 => ho us H1 (c.up e1) h1 Q fun p xs H3 e3 hp h3 h4 => q p xs H3 (e1.trans e3) (e1.free hp) h3 h4
theorem ty_if (hc : Tt W Γ tt φ) (h1 : φ true → Ty W Γ ta T) (h2 : φ false → Ty W Γ tb T) : Ty W Γ (tIf tt ta tb) T := fun σ H c g Q q =>
  hc σ H c g _ fun b H1 e1 hb => by
    cases b with
    | true => rw [if_pos rfl]; exact h1 hb σ H1 (c.up e1) (g.up e1.toW) Q fun v H2 e2 h => q v H2 (e1.trans e2) h
    | false => rw [if_neg Bool.false_ne_true]; exact h2 hb σ H1 (c.up e1) (g.up e1.toW) Q fun v H2 e2 h => q v H2 (e1.trans e2) h
theorem ty_andV {a b : Bool} (h1 : Ty W Γ ta (dt K (.bool a))) (h2 : a = true → Ty W Γ tb (dt K (.bool b))) : Ty W Γ (tAndV ta tb) (dt K (.bool (a && b))) := fun σ H c g Q q =>
  h1 σ H c g _ fun v H1 e1 hv => by
    cases hv
    refine ⟨a, rfl, ?_⟩
    cases a with
    | true => rw [if_pos rfl]; exact h2 rfl σ H1 (c.up e1) (g.up e1.toW) Q fun v H2 e2 h => q v H2 (e1.trans e2) (by rw [Bool.true_and]; exact h)
    | false => rw [if_neg Bool.false_ne_true]; exact q _ H1 e1 (.bl _)
theorem ty_orV {a b : Bool} (h1 : Ty W Γ ta (dt K (.bool a))) (h2 : a = false → Ty W Γ tb (dt K (.bool b))) : Ty W Γ (tOrV ta tb) (dt K (.bool (a || b))) := fun σ H c g Q q =>
  h1 σ H c g _ fun v H1 e1 hv => by
    cases hv
    refine ⟨a, rfl, ?_⟩
    cases a with
    | true => rw [if_pos rfl]; exact q _ H1 e1 (.bl _)
    | false => rw [if_neg Bool.false_ne_true]; exact h2 rfl σ H1 (c.up e1) (g.up e1.toW) Q fun v H2 e2 h => q v H2 (e1.trans e2) (by rw [Bool.false_or]; exact h)
theorem ty_notV {a : Bool} (h1 : Ty W Γ ta (dt K (.bool a))) : Ty W Γ (tNotV ta) (dt K (.bool (!a))) := fun σ H c g Q q =>
  h1 σ H c g _ fun v H1 e1 hv => by
    cases hv
    exact ⟨a, rfl, q _ H1 e1 (.bl _)⟩
theorem Ty.is (h : Ty W Γ te (dt K d)) (k : d = e) : Ty W Γ te (dt K e) := k ▸ h
/-! ### tests -/
theorem Tt.sub (h : Tt W Γ tt φ) (k : ∀ b, φ b → ψ b) : Tt W Γ tt ψ := fun σ H c g Q q => h σ H c g Q fun b H1 e z => q b H1 e (k b z)
theorem tt_B {b : Bool} (h : Ty W Γ te (dt K (.bool b))) : Tt W Γ (tB te) (· = b) := fun σ H c g Q q => h σ H c g _ fun v H1 e hv => by
  cases hv
  exact ⟨b, rfl, q b H1 e rfl⟩
theorem tt_test {b : Bool} (h : Ty W Γ te (dt K (.bool b))) : Tt W Γ (tTest te) (· = b) := fun σ H c g Q q => h σ H c g _ fun v H1 e hv => by
  cases hv
  exact ⟨b, rfl, q b H1 e rfl⟩
/-- a truth value of which something is known -/
def boT (K : PySem.W.Frag) (φ : Bool → Prop) : Typ := exT fun b : Bool => gd (φ b) (dt K (.bool b))
theorem tt_BE (h : Ty W Γ te (boT K φ)) : Tt W Γ (tB te) φ := fun σ H c g Q q => h σ H c g _ fun v H1 e ⟨b, h1, h2⟩ => by
  cases h2
  exact ⟨b, rfl, q b H1 e h1⟩
theorem tt_testE (h : Ty W Γ te (boT K φ)) : Tt W Γ (tTest te) φ := fun σ H c g Q q => h σ H c g _ fun v H1 e ⟨b, h1, h2⟩ => by
  cases h2
  exact ⟨b, rfl, q b H1 e h1⟩
theorem tt_and (h1 : Tt W Γ tt φ) (h2 : φ true → Tt W Γ tu ψ) : Tt W Γ (tAnd tt tu) (fun b => (b = false ∧ φ false) ∨ (φ true ∧ ψ b)) := fun σ H c g Q q =>
  h1 σ H c g _ fun b H1 e1 hb => by
    cases b with
    | true => rw [if_pos rfl]; exact h2 hb σ H1 (c.up e1) (g.up e1.toW) Q fun b H2 e2 h => q b H2 (e1.trans e2) (.inr ⟨hb, h⟩)
    | false => rw [if_neg Bool.false_ne_true]; exact q false H1 e1 (.inl ⟨rfl, hb⟩)
theorem tt_or (h1 : Tt W Γ tt φ) (h2 : φ false → Tt W Γ tu ψ) : Tt W Γ (tOr tt tu) (fun b => (b = true ∧ φ true) ∨ (φ false ∧ ψ b)) := fun σ H c g Q q =>
  h1 σ H c g _ fun b H1 e1 hb => by
    cases b with
    | true => rw [if_pos rfl]; exact q true H1 e1 (.inl ⟨rfl, hb⟩)
    | false => rw [if_neg Bool.false_ne_true]; exact h2 hb σ H1 (c.up e1) (g.up e1.toW) Q fun b H2 e2 h => q b H2 (e1.trans e2) (.inr ⟨hb, h⟩)
theorem tt_andB {a b : Bool} (h1 : Tt W Γ tt (· = a)) (h2 : a = true → Tt W Γ tu (· = b)) : Tt W Γ (tAnd tt tu) (· = (a && b)) :=
  (tt_and h1 fun z => h2 z.symm).sub fun c z => by
    rcases z with ⟨rfl, z⟩ | ⟨z, rfl⟩
    · rw [← z]; rfl
    · rw [← z]; rfl
theorem tt_orB {a b : Bool} (h1 : Tt W Γ tt (· = a)) (h2 : a = false → Tt W Γ tu (· = b)) : Tt W Γ (tOr tt tu) (· = (a || b)) :=
  (tt_or h1 fun z => h2 z.symm).sub fun c z => by
    rcases z with ⟨rfl, z⟩ | ⟨z, rfl⟩
    · rw [← z]; rfl
    · rw [← z]; rfl
theorem tt_not (h1 : Tt W Γ tt φ) : Tt W Γ (tNot tt) (fun b => φ (!b)) := fun σ H c g Q q => h1 σ H c g _ fun b H1 e1 hb => q (!b) H1 e1 (by show φ (!!b); rw [Bool.not_not]; exact hb)
theorem tt_notB {a : Bool} (h1 : Tt W Γ tt (· = a)) : Tt W Γ (tNot tt) (· = !a) := (tt_not h1).sub fun b z => by rw [← z, Bool.not_not]
theorem Tt.is {a b : Bool} (h : Tt W Γ tt (· = a)) (k : a = b) : Tt W Γ tt (· = b) := k ▸ h
/-! ### arguments, displays -/
theorem tya_nil : TyA W Γ tNil [] := fun σ H c g Q q => q [] H (Ex.refl W.B H) True.intro
theorem tya_cons (h : Ty W Γ te T) (hr : TyA W Γ tr Ts) : TyA W Γ (tCons te tr) (T :: Ts) := fun σ H c g Q q =>
  h σ H c g _ fun v H1 e1 hv => hr σ H1 (c.up e1) (g.up e1.toW) _ fun vs H2 e2 hvs => q (v :: vs) H2 (e1.trans e2) ⟨T.up e2.toW hv, hvs⟩
theorem TyA.data (h : TyA W Γ tl Ts) (k : Ts = ds.map (dt K)) : TyA W Γ tl (ds.map (dt K)) := k ▸ h
theorem sz_le {n : Nat} (h : n ≤ 1000000) : n ≤ sizeLine := Nat.le_trans h (by decide)
theorem sz_lt {n : Nat} (h : n < 1000000) : n < sizeLine := Nat.lt_of_lt_of_le h (by decide)
theorem ty_tup (h : TyA W Γ tl Ts) (hz : Ts.length ≤ 1000000) : Ty W Γ (tTup tl) (tupT K Ts) := fun σ H c g Q q =>
  h σ H c g _ fun vs H1 e1 hv => ⟨by rw [hv.length]; exact sz_le hz, fun p hp => q _ _ (e1.trans (Ex.new hp)) ⟨p, vs, rfl, SqT.of upd_same, hv.up (Ex.new hp).toW⟩⟩
theorem tyl_lst (h : TyA W Γ tl Ts) (hz : Ts.length ≤ 1000000) : TyL W Γ (tLst tl) Ts := fun σ H c g Q q =>
  h σ H c g _ fun vs H1 e1 hv => ⟨by rw [hv.length]; exact sz_le hz, fun p hp => q p vs _ (e1.trans (Ex.new hp)) (e1.free hp) upd_same (hv.up (Ex.new hp).toW)⟩
theorem TyL.ty (h : TyL W Γ te Ts) : Ty W Γ te (lstT Ts) := fun σ H c g Q q => h σ H c g Q fun p xs H1 e hp h1 h2 => q _ H1 e ⟨p, xs, rfl, c.nm hp, h1, h2⟩
theorem TyL.data (h : TyL W Γ te (ds.map (dt K))) : Ty W Γ te (dt K (.list ds)) := h.ty.sub fun _ _ _ => lstT_data
theorem Ty.tup (h : Ty W Γ te (tupT K (ds.map (dt K)))) : Ty W Γ te (dt K (.tuple ds)) := h.sub fun _ _ _ => tupT_data
theorem ty_tupD (h : TyA W Γ tl (ds.map (dt K))) (hz : ds.length ≤ 1000000) : Ty W Γ (tTup tl) (dt K (.tuple ds)) := (ty_tup h (by rw [List.length_map]; exact hz)).tup
theorem ty_lstD (h : TyA W Γ tl (ds.map (dt K))) (hz : ds.length ≤ 1000000) : Ty W Γ (tLst tl) (dt K (.list ds)) := (tyl_lst h (by rw [List.length_map]; exact hz)).data
/-! ### statements -/
variable {ts tu' : TS} {N N' : Sx → Hp → Prop} {R : V → Hp → Prop} {Bk Ct : Sx → Hp → Prop} {W' : Wd}
theorem tys_seq {tw : TS} (h1 : TyS W Γ ts N R Bk Ct) (h2 : ∀ σ H, N σ H → ∃ (W' : Wd) (Γ' : Gam), W.Like W' ∧ nE W' Γ' σ H ∧ TyS W' Γ' tw N' R Bk Ct) : TyS W Γ (tSeq ts tw) N' R Bk Ct := fun σ H c g D dn dr db dc =>
  h1 σ H c g { D with nx := tw D } (fun σ' H' e n => by
    obtain ⟨W', Γ', l, g', k⟩ := h2 σ' H' n
    exact k σ' H' g'.1 g'.2 D (fun σ2 H2 e2 => dn σ2 H2 (e.trans (l.exm e2))) dr (fun σ2 H2 e2 => db σ2 H2 (e.trans (l.exm e2))) (fun σ2 H2 e2 => dc σ2 H2 (e.trans (l.exm e2)))) dr db dc
theorem tys_seqE {Γ' : Gam} {tw : TS} (h1 : TyS W Γ ts (nE W' Γ') R Bk Ct) (h2 : TyS W' Γ' tw N' R Bk Ct) (l : W.Like W' := by exact ⟨rfl, rfl⟩) : TyS W Γ (tSeq ts tw) N' R Bk Ct := tys_seq h1 fun σ H n => ⟨W', Γ', l, n, h2⟩
theorem tys_seqX {α : Type} {W' : α → Wd} {Γ' : α → Gam} {tw : TS} (h1 : TyS W Γ ts (fun σ H => ∃ x, nE (W' x) (Γ' x) σ H) R Bk Ct) (h2 : ∀ x, TyS (W' x) (Γ' x) tw N' R Bk Ct) (l : ∀ x, W.Like (W' x) := by exact fun _ => ⟨rfl, rfl⟩) : TyS W Γ (tSeq ts tw) N' R Bk Ct :=
  tys_seq h1 fun σ H ⟨x, n⟩ => ⟨W' x, Γ' x, l x, n, h2 x⟩
theorem TyS.imp (h : TyS W Γ ts N R Bk Ct) (k : ∀ σ H, N σ H → N' σ H) : TyS W Γ ts N' R Bk Ct := fun σ H c g D dn dr db dc => h σ H c g D (fun σ' H' e n => dn σ' H' e (k σ' H' n)) dr db dc
theorem TyS.never (h : TyS W Γ ts noN R Bk Ct) : TyS W Γ ts N R Bk Ct := h.imp fun _ _ z => z.elim
theorem TyS.less {Δ : Gam} (h : TyS W Γ ts N R Bk Ct) (l : Less Γ Δ) : TyS W Δ ts N R Bk Ct := fun σ H c g => h σ H c (EnvL.less l g)
theorem tys_next : TyS W Γ tNext (nE W Γ) R Bk Ct := fun σ H c g D dn _ _ _ => dn σ H (Exm.refl _ _ _) ⟨c, g⟩
theorem tys_cont : TyS W Γ tCont noN R Bk (nE W Γ) := fun σ H c g D _ _ _ dc => dc σ H (Exm.refl _ _ _) ⟨c, g⟩
theorem tys_break : TyS W Γ tBreak noN R (nE W Γ) Ct := fun σ H c g D _ _ db _ => db σ H (Exm.refl _ _ _) ⟨c, g⟩
theorem tys_set (h : Ty W Γ te T) : TyS W Γ (tAsg te (gName i)) (nE W (Γ.set i (some T))) R Bk Ct := fun σ H c g D dn _ _ _ =>
  h σ H c g _ fun v H1 e hv => dn _ H1 e.toW ⟨c.up e, EnvL.set hv (g.up e.toW)⟩
theorem tys_setX {α : Type} {A : α → Typ} (h : Ty W Γ te (exT A)) : TyS W Γ (tAsg te (gName i)) (fun σ H => ∃ x, nE W (Γ.set i (some (A x))) σ H) R Bk Ct := fun σ H c g D dn _ _ _ =>
  h σ H c g _ fun v H1 e ⟨x, hv⟩ => dn _ H1 e.toW ⟨x, c.up e, EnvL.set hv (g.up e.toW)⟩
theorem tys_ret (h : Ty W Γ te T) (k : ∀ v H, Cxt W H → T.at W v H → R v H) : TyS W Γ (tRet te) noN R Bk Ct := fun σ H c g D _ dr _ _ => h σ H c g _ fun v H1 e hv => dr v H1 (k v H1 (c.up e) hv)
theorem tys_drop (h : Ty W Γ te T) : TyS W Γ (tDrop te) (nE W Γ) R Bk Ct := fun σ H c g D dn _ _ _ => h σ H c g _ fun v H1 e _ => dn σ H1 e.toW ⟨c.up e, g.up e.toW⟩
theorem tys_if (hc : Tt W Γ tt φ) (h1 : φ true → TyS W Γ ts N R Bk Ct) (h2 : φ false → TyS W Γ tu' N R Bk Ct) : TyS W Γ (tIfS tt ts tu') N R Bk Ct := fun σ H c g D dn dr db dc =>
  hc σ H c g _ fun b H1 e hb => by
    have f := e.toW
    cases b with
    | true => rw [if_pos rfl]; exact h1 hb σ H1 (c.up e) (g.up f) D (fun σ2 H2 e2 => dn σ2 H2 (f.trans e2)) dr (fun σ2 H2 e2 => db σ2 H2 (f.trans e2)) (fun σ2 H2 e2 => dc σ2 H2 (f.trans e2))
    | false => rw [if_neg Bool.false_ne_true]; exact h2 hb σ H1 (c.up e) (g.up f) D (fun σ2 H2 e2 => dn σ2 H2 (f.trans e2)) dr (fun σ2 H2 e2 => db σ2 H2 (f.trans e2)) (fun σ2 H2 e2 => dc σ2 H2 (f.trans e2))
/-- an if that returns, then the rest -/
theorem tys_guard {tw : TS} (hc : Tt W Γ tt φ) (h1 : φ true → TyS W Γ ts noN R Bk Ct) (h2 : φ false → TyS W Γ tw N R Bk Ct) : TyS W Γ (tSeq (tIfS tt ts tNext) tw) N R Bk Ct := fun σ H c g D dn dr db dc =>
  hc σ H c g _ fun b H1 e hb => by
    have f := e.toW
    cases b with
    | true => rw [if_pos rfl]; exact h1 hb σ H1 (c.up e) (g.up f) _ (fun σ2 H2 _ z => z.elim) dr (fun σ2 H2 e2 => db σ2 H2 (f.trans e2)) (fun σ2 H2 e2 => dc σ2 H2 (f.trans e2))
    | false => rw [if_neg Bool.false_ne_true]; exact h2 hb σ H1 (c.up e) (g.up f) D (fun σ2 H2 e2 => dn σ2 H2 (f.trans e2)) dr (fun σ2 H2 e2 => db σ2 H2 (f.trans e2)) (fun σ2 H2 e2 => dc σ2 H2 (f.trans e2))
end
/-! ### promises -/
/-- for every x with C: arguments of the types A, a value of the type R; the boxes of B may turn -/
def spT {α : Type} (C : α → Prop) (A : α → List Typ) (R : α → Typ) : Sp := fun vs H Q _ => ∃ (M B : Addr → Prop) (x : α), (∀ a, B a → M a) ∧ (∀ a, B a → BoxAt H a) ∧ (∀ a, M a → H a ≠ none) ∧ C x ∧ TysV M B (A x) vs H ∧ ∀ v H', Ex B H H' → (R x).p M B v H' → Q v H'
section
variable {W : Wd} {Γ : Gam} {tl : TA} {α : Type} {C : α → Prop} {A : α → List Typ} {R : α → Typ} {E : XK}
theorem ty_call (x : α) (hC : C x) (h : TyA W Γ tl (A x)) : Ty W Γ (tCall (spT C A R) [] E tl) (R x) := fun σ H c g Q q =>
  h σ H c g _ fun vs H1 e1 hv => ⟨W.M, W.B, x, W.sub, (c.up e1).box, (c.up e1).al, hC, by rw [List.append_nil]; exact hv, fun v H2 e2 h2 => q v H2 (e1.trans e2) h2⟩
end
/-- a def's first world -/
def Wd.base (M B : Addr → Prop) (H : Hp) (s : ∀ a, B a → M a) : Wd := ⟨M, B, H, fun _ => True, s, fun _ _ => True.intro⟩
section
variable {P : Program} {w : World} {K : PySem.W.Frag} {mg : Str → Option Value} {base : Heap}
theorem okN {x qual : Str} {st : Stmt} {f : Addr} {fd : FuncData} {N ps : List Str} {k : Nat} {sp : Sp} (F : Fun K x qual st f fd) (S : FnScope N ps (defScope st)) (len : ∀ vs H Q E, sp vs H Q E → vs.length = ps.length)
    (hbody : ∀ (cdv : Value) (A : Around) (outer : List Env) (s : Shared) (H : Hp) (vs : List V) (Q : VK) (E : XK), Room k (A.deeper (envOfC qual (defScope st) s.heap.objs.size f cdv)) → sp vs H Q E →
      ∃ t, PSs (cxOf (L2.CX P w) P w K mg base N qual (defScope st) f cdv A outer s H E).nox (defBody st) t ∧ t { nx := fun _ H' => Q .non H', rt := Q } (L2.start N vs) H) : FnOk P w K mg base (L2.CX P w) (k + 1) f fd ps sp :=
  F.okX S len fun cdv A outer s H vs Q E hr hs => by
    obtain ⟨t, h, q⟩ := hbody cdv A outer s H vs Q E hr hs
    exact ⟨t, h.nox, q⟩
theorem env_start {M B : Addr → Prop} {H : Hp} : ∀ {Ts : List Typ} {vs : List V}, TysV M B Ts vs H → ∀ n, EnvL M B (Ts.map some ++ List.replicate n none) (vs.map some ++ List.replicate n none) H
  | [], [], _, n => by
    induction n with
    | zero => exact True.intro
    | succ n ih => exact ih
  | _ :: _, _ :: _, h, n => ⟨h.1, env_start h.2 n⟩
  | [], _ :: _, h, _ => h.elim
  | _ :: _, [], h, _ => h.elim
/-- what a def hands back -/
def rW (W : Wd) (T : Typ) : V → Hp → Prop := fun v H => Ex W.B W.H0 H ∧ T.at W v H
/-- a def by its typed body -/
theorem fn_ty {x qual : Str} {st : Stmt} {f : Addr} {fd : FuncData} {N ps : List Str} {k : Nat} {α : Type} {C : α → Prop} {A : α → List Typ} {R : α → Typ} (F : Fun K x qual st f fd) (S : FnScope N ps (defScope st))
    (len : ∀ x, C x → (A x).length = ps.length)
    (hbody : ∀ (cdv : Value) (Ar : Around) (outer : List Env) (s : Shared) (H : Hp) (E : XK), Room k (Ar.deeper (envOfC qual (defScope st) s.heap.objs.size f cdv)) →
      ∃ t, PSs (cxOf (L2.CX P w) P w K mg base N qual (defScope st) f cdv Ar outer s H E).nox (defBody st) t ∧ ∀ (W : Wd) (x : α), C x → TyS W ((A x).map some ++ List.replicate (N.length - ps.length) none) t (fun _ H' => rW W (R x) .non H') (rW W (R x)) noN noN) :
    FnOk P w K mg base (L2.CX P w) (k + 1) f fd ps (spT C A R) := by
  refine okN F S (fun vs H Q E h => ?_) fun cdv Ar outer s H vs Q E hr h => ?_
  · obtain ⟨M, B, x, _, _, _, hC, h, _⟩ := h
    rw [h.length, len x hC]
  · obtain ⟨M, B, x, hs, hb, ha, hC, h, q⟩ := h
    obtain ⟨t, ht, k⟩ := hbody cdv Ar outer s H E hr
    refine ⟨t, ht, k (Wd.base M B H hs) x hC (L2.start N vs) H ⟨hb, ha, Ex.refl B H, True.intro⟩ ?_ _ (fun σ' H' _ n => q _ _ n.1 n.2) (fun v H' n => q _ _ n.1 n.2) (fun _ _ _ z => z.elim) (fun _ _ _ z => z.elim)⟩
    unfold L2.start
    have e : vs.length = ps.length := by rw [h.length, len x hC]
    rw [e]
    exact env_start h _
theorem tys_retW {W : Wd} {Γ : Gam} {te : TE} {T : Typ} {Bk Ct : Sx → Hp → Prop} (h : Ty W Γ te T) : TyS W Γ (tRet te) noN (rW W T) Bk Ct := tys_ret h fun v H c k => ⟨c.ex, k⟩
end
end Ew

end
section
set_option Elab.async false
set_option linter.all false
set_option maxRecDepth 100000
set_option maxHeartbeats 1000000
/-! EwC: operators, built-in calls, walks, comprehensions, loops, by types. -/
namespace Ew
open PySem PySem.Spec PyProof.Rows L2
/-! ### what may be one of several -/
theorem CallR.or {X : Cx} {f : Value} {r r' : List V → Hp → VK → Prop} (h : CallR X f r) (h' : CallR X f r') : CallR X f (fun xs H Q => r xs H Q ∨ r' xs H Q) := by
  intro pins s σ H xs us Q I rx q
  rcases q with q | q
  · exact h pins s σ H xs us Q I rx q
  · exact h' pins s σ H xs us Q I rx q
abbrev rAddI : R2 := rI0 fun i j => .int (i + j)
abbrev rAddStr : R2 := fun x y H Q => ∃ i j, x = .str i ∧ y = .str j ∧ i.length + j.length ≤ sizeLine ∧ Q (.str (i ++ j)) H
/-- a + b: ints, tuples, lists, texts -/
def rAddA (K : PySem.W.Frag) : R2 := fun x y H Q => rAddI x y H Q ∨ rCatA K x y H Q ∨ rCat x y H Q ∨ rAddStr x y H Q
theorem op_addA {X : Cx} : OpR X (binaryOp .Add) (rAddA X.K) := op_add.or (op_catA.or (op_cat.or op_add_str))
/-- a * b: ints (below 2 ^ 64 one of them; together below a million bits) -/
def rMulA : R2 := fun x y H Q => rI CMul (fun i j => .int (i * j)) x y H Q ∨ rI CMulW (fun i j => .int (i * j)) x y H Q
theorem op_mulA {X : Cx} : OpR X (binaryOp .Mult) rMulA := op_mul.or op_mulW
/-- a // b -/
def rDivA : R2 := fun x y H Q => rI CDivW (fun i j => .int (i / j)) x y H Q ∨ rI CDivN (fun i j => .int (i.fdiv j)) x y H Q
theorem op_divA {X : Cx} : OpR X (binaryOp .FloorDiv) rDivA := op_fdivW.or op_fdivN
/-- == at any depth -/
def rEqA (K : PySem.W.Frag) : R2 := fun x y H Q => rEq x y H Q ∨ rEqD K x y H Q
theorem op_eqA {X : Cx} (hu : X.A.units + 64 < cLine) : OpR X (compareOp .Eq) (rEqA X.K) := op_eq.or (op_eqD hu)
def rNeA (K : PySem.W.Frag) : R2 := fun x y H Q => rNe x y H Q ∨ rNeD K x y H Q
theorem op_neA {X : Cx} (hu : X.A.units + 64 < cLine) : OpR X (compareOp .NotEq) (rNeA X.K) := op_ne.or (op_neD hu)
/-- len -/
def rLen (K : PySem.W.Frag) : List V → Hp → VK → Prop := fun xs H Q => ∃ x n, xs = [x] ∧ LenV K x H n ∧ Q (.int n) H
def rLenD : List V → Hp → VK → Prop := fun xs H Q => ∃ d kvs, xs = [.ref d] ∧ H d = some (.dK kvs) ∧ Q (.int (kvs.length : Nat)) H

section
variable {W : Wd} {Γ : Gam} {K : PySem.W.Frag} {T U A C P : Typ} {Ts Us : List Typ} {i j : Int} {ds es : List PyData} {d e : PyData} {B : Addr → Prop}
theorem opt_I0 {g : Int → Int → V} {r : PyData} (h : ∀ M H, Rp M K H (g i j) r) : OpT W (rI0 g) (dt K (.int i)) (dt K (.int j)) (dt K r) := fun u v H c hu hv Q q => by
  cases hu
  cases hv
  exact ⟨i, j, rfl, rfl, q _ H (Ex.refl W.B H) (h _ _)⟩
theorem opt_I {D : Int → Int → Prop} {g : Int → Int → V} {r : PyData} (hd : D i j) (h : ∀ M H, Rp M K H (g i j) r) : OpT W (rI D g) (dt K (.int i)) (dt K (.int j)) (dt K r) := fun u v H c hu hv Q q => by
  cases hu
  cases hv
  exact ⟨i, j, rfl, rfl, hd, q _ H (Ex.refl W.B H) (h _ _)⟩
theorem opt_add : OpT W (rAddA K) (dt K (.int i)) (dt K (.int j)) (dt K (.int (i + j))) := fun u v H c hu hv Q q => .inl (opt_I0 (fun _ _ => .int _) u v H c hu hv Q q)
theorem opt_sub : OpT W (rI0 fun i j => .int (i - j)) (dt K (.int i)) (dt K (.int j)) (dt K (.int (i - j))) := opt_I0 fun _ _ => .int _
theorem opt_mul (h : CMul i j) : OpT W rMulA (dt K (.int i)) (dt K (.int j)) (dt K (.int (i * j))) := fun u v H c hu hv Q q => .inl (opt_I h (fun _ _ => .int _) u v H c hu hv Q q)
theorem opt_mulW (h : CMulW i j) : OpT W rMulA (dt K (.int i)) (dt K (.int j)) (dt K (.int (i * j))) := fun u v H c hu hv Q q => .inr (opt_I h (fun _ _ => .int _) u v H c hu hv Q q)
theorem opt_div (h : CDivW i j) : OpT W rDivA (dt K (.int i)) (dt K (.int j)) (dt K (.int (i / j))) := fun u v H c hu hv Q q => .inl (opt_I h (fun _ _ => .int _) u v H c hu hv Q q)
theorem opt_mod (h : 0 < j) : OpT W (rI (fun _ j => 0 < j) fun i j => .int (i % j)) (dt K (.int i)) (dt K (.int j)) (dt K (.int (i % j))) := opt_I h fun _ _ => .int _
theorem opt_pow (h : CPow i j) : OpT W (rI CPow fun i j => .int (i ^ j.toNat)) (dt K (.int i)) (dt K (.int j)) (dt K (.int (i ^ j.toNat))) := opt_I h fun _ _ => .int _
theorem opt_lt : OpT W (rI0 fun i j => .bl (decide (i < j))) (dt K (.int i)) (dt K (.int j)) (dt K (.bool (decide (i < j)))) := opt_I0 fun _ _ => .bl _
theorem opt_le : OpT W (rI0 fun i j => .bl (decide (i ≤ j))) (dt K (.int i)) (dt K (.int j)) (dt K (.bool (decide (i ≤ j)))) := opt_I0 fun _ _ => .bl _
theorem opt_gt : OpT W (rI0 fun i j => .bl (decide (j < i))) (dt K (.int i)) (dt K (.int j)) (dt K (.bool (decide (j < i)))) := opt_I0 fun _ _ => .bl _
theorem opt_ge : OpT W (rI0 fun i j => .bl (decide (j ≤ i))) (dt K (.int i)) (dt K (.int j)) (dt K (.bool (decide (j ≤ i)))) := opt_I0 fun _ _ => .bl _
theorem unt_neg : UnT W (rU fun i => .int (-i)) (dt K (.int i)) (dt K (.int (-i))) := fun u H c hu Q q => by
  cases hu
  exact ⟨i, rfl, q _ H (Ex.refl W.B H) (.int _)⟩
theorem opt_catT (hz : ds.length + es.length ≤ 1000000) : OpT W (rAddA K) (dt K (.tuple ds)) (dt K (.tuple es)) (dt K (.tuple (ds ++ es))) := fun u v H c hu hv Q q => by
  cases hu with
  | @tup a xs _ h1 h2 =>
    cases hv with
    | @tup b ys _ h3 h4 =>
      refine .inr (.inl ⟨a, b, xs, ys, rfl, rfl, h1, h3, by rw [h2.length, h4.length]; exact sz_le hz, fun e => ?_, fun _ e => ?_, fun _ _ p hp => ?_⟩)
      · subst e
        cases h2
        exact q _ H (Ex.refl W.B H) (.tup h3 h4)
      · subst e
        cases h4
        rw [List.append_nil] at q
        exact q _ H (Ex.refl W.B H) (.tup h1 h2)
      · exact q _ _ (Ex.new hp) (.tup (SqT.of upd_same) (RpA.up (Ex.new (B := W.B) hp).toW (h2.append h4)))
theorem opt_catL (hz : Ts.length + Us.length ≤ 1000000) : OpT W (rAddA K) (lstT Ts) (lstT Us) (lstT (Ts ++ Us)) := fun u v H c hu hv Q q => by
  obtain ⟨a, xs, rfl, ha, h1, h2⟩ := hu
  obtain ⟨b, ys, rfl, hb, h3, h4⟩ := hv
  exact .inr (.inr (.inl ⟨a, b, xs, ys, rfl, rfl, h1, h3, by rw [h2.length, h4.length]; exact sz_le hz, fun p hp => q _ _ (Ex.new hp) ⟨p, xs ++ ys, rfl, c.nm hp, upd_same, (h2.append h4).up (Ex.new (B := W.B) hp).toW⟩⟩))
theorem opt_catS {x y : Str} (hz : x.length + y.length ≤ 1000000) : OpT W (rAddA K) (dt K (.str x)) (dt K (.str y)) (dt K (.str (x ++ y))) := fun u v H c hu hv Q q => by
  cases hu
  cases hv
  exact .inr (.inr (.inr ⟨x, y, rfl, rfl, sz_le hz, q _ H (Ex.refl W.B H) (.str _)⟩))
/-! ### == -/
mutual
theorem Rp.dp {M : Addr → Prop} {H : Hp} : ∀ {v : V} {d : PyData}, Rp M K H v d → d.canLay0 = true → Dp K H v d
  | _, _, .non, _ => .non
  | _, _, .bl b, _ => .bl b
  | _, _, .int i, _ => .int i
  | _, _, .str x, _ => .str x
  | _, _, .lst h _ r, z => .lst (SqL.of h) (RpA.dp r (by simpa [PyData.canLay0] using z))
  | _, _, .tup h r, z => .tup h (RpA.dp r (by simpa [PyData.canLay0] using z))
  | _, _, .dic _ _, z => by simp [PyData.canLay0] at z
theorem RpA.dp {M : Addr → Prop} {H : Hp} : ∀ {v : List V} {d : List PyData}, RpA M K H v d → PyData.canLayAll0 d = true → DpAll K H v d
  | _, _, .nil, _ => .nil
  | _, _, .cons h r, z => by
    have z' := Bool.and_eq_true_iff.mp (show (PyData.canLay0 _ && PyData.canLayAll0 _) = true by simpa [PyData.canLayAll0] using z)
    exact .cons (Rp.dp h z'.1) (RpA.dp r z'.2)
end
theorem opt_eqD (hd : SeqAt.shaped d = true) (he : SeqAt.shaped e = true) : OpT W (rEqA K) (dt K d) (dt K e) (dt K (.bool (PyData.eqv d e))) := fun u v H c hu hv Q q =>
  .inr ⟨d, e, Rp.dp hu (SeqAt.canLay_of_shaped hd), Rp.dp hv (SeqAt.canLay_of_shaped he), hd, he, q _ H (Ex.refl W.B H) (.bl _)⟩
theorem opt_neD (hd : SeqAt.shaped d = true) (he : SeqAt.shaped e = true) : OpT W (rNeA K) (dt K d) (dt K e) (dt K (.bool (!PyData.eqv d e))) := fun u v H c hu hv Q q =>
  .inr ⟨d, e, Rp.dp hu (SeqAt.canLay_of_shaped hd), Rp.dp hv (SeqAt.canLay_of_shaped he), hd, he, q _ H (Ex.refl W.B H) (.bl _)⟩
theorem opt_eqI : OpT W (rEqA K) (dt K (.int i)) (dt K (.int j)) (dt K (.bool (decide (i = j)))) := fun u v H c hu hv Q q => by
  cases hu
  cases hv
  refine .inl ⟨rfl, q _ H (Ex.refl W.B H) ?_⟩
  have e : decide (V.int i = V.int j) = decide (i = j) := by rw [dec_int, Bool.beq_eq_decide_eq]
  rw [e]; exact .bl _
theorem opt_neI : OpT W (rNeA K) (dt K (.int i)) (dt K (.int j)) (dt K (.bool (!decide (i = j)))) := fun u v H c hu hv Q q => by
  cases hu
  cases hv
  refine .inl ⟨rfl, q _ H (Ex.refl W.B H) ?_⟩
  have e : decide (V.int i = V.int j) = decide (i = j) := by rw [dec_int, Bool.beq_eq_decide_eq]
  rw [e]; exact .bl _
theorem opt_eqB {a b : Bool} : OpT W (rEqA K) (dt K (.bool a)) (dt K (.bool b)) (dt K (.bool (decide (a = b)))) := fun u v H c hu hv Q q => by
  cases hu
  cases hv
  refine .inl ⟨rfl, q _ H (Ex.refl W.B H) ?_⟩
  have e : decide (V.bl a = V.bl b) = decide (a = b) := by rw [dec_bl, Bool.beq_eq_decide_eq]
  rw [e]; exact .bl _
theorem opt_neB {a b : Bool} : OpT W (rNeA K) (dt K (.bool a)) (dt K (.bool b)) (dt K (.bool (!decide (a = b)))) := fun u v H c hu hv Q q => by
  cases hu
  cases hv
  refine .inl ⟨rfl, q _ H (Ex.refl W.B H) ?_⟩
  have e : decide (V.bl a = V.bl b) = decide (a = b) := by rw [dec_bl, Bool.beq_eq_decide_eq]
  rw [e]; exact .bl _
theorem opt_eqS {a b : Str} : OpT W (rEqA K) (dt K (.str a)) (dt K (.str b)) (dt K (.bool (decide (a = b)))) := fun u v H c hu hv Q q => by
  cases hu
  cases hv
  refine .inl ⟨rfl, q _ H (Ex.refl W.B H) ?_⟩
  have e : decide (V.str a = V.str b) = decide (a = b) := by rw [dec_str, Bool.beq_eq_decide_eq]
  rw [e]; exact .bl _
theorem opt_neS {a b : Str} : OpT W (rNeA K) (dt K (.str a)) (dt K (.str b)) (dt K (.bool (!decide (a = b)))) := fun u v H c hu hv Q q => by
  cases hu
  cases hv
  refine .inl ⟨rfl, q _ H (Ex.refl W.B H) ?_⟩
  have e : decide (V.str a = V.str b) = decide (a = b) := by rw [dec_str, Bool.beq_eq_decide_eq]
  rw [e]; exact .bl _
/-! ### is -/
def isNoneD : PyData → Bool
  | .none => true
  | _ => false
theorem Rp.isN {M : Addr → Prop} {H : Hp} {v : V} (h : Rp M K H v d) : decide (v = .non) = isNoneD d := by
  cases h <;> rfl
theorem opt_isN : OpT W (fun x y H Q => y = .non ∧ Q (.bl (decide (x = .non))) H) (dt K d) (dt K .none) (dt K (.bool (isNoneD d))) := fun u v H c hu hv Q q => by
  cases hv
  exact ⟨rfl, q _ H (Ex.refl W.B H) (by rw [Rp.isN hu]; exact .bl _)⟩
theorem opt_notN : OpT W (fun x y H Q => y = .non ∧ Q (.bl (!decide (x = .non))) H) (dt K d) (dt K .none) (dt K (.bool (!isNoneD d))) := fun u v H c hu hv Q q => by
  cases hv
  exact ⟨rfl, q _ H (Ex.refl W.B H) (by rw [Rp.isN hu]; exact .bl _)⟩
theorem opt_isB {a b : Bool} : OpT W rIsB (dt K (.bool a)) (dt K (.bool b)) (dt K (.bool (decide (a = b)))) := fun u v H c hu hv Q q => by
  cases hu
  cases hv
  exact ⟨a, b, rfl, rfl, q _ H (Ex.refl W.B H) (.bl _)⟩
/-! ### items -/
theorem atI_RpA {M : Addr → Prop} {H : Hp} {xs : List V} (h : RpA M K H xs ds) (e : atI ds i = some d) : ∃ v, atI xs i = some v ∧ Rp M K H v d := by
  unfold atI at e ⊢
  rw [h.length]
  cases q : ixN ds.length i with
  | none => rw [q] at e; cases e
  | some n =>
    rw [q] at e
    exact h.getD e
theorem opt_ixT (e : atI ds i = some d) : OpT W (rIx K) (dt K (.tuple ds)) (dt K (.int i)) (dt K d) := fun u v H c hu hv Q q => by
  cases hv
  cases hu with
  | tup h r =>
    obtain ⟨w, h1, h2⟩ := atI_RpA r e
    exact .inr (.inl ⟨_, _, i, w, rfl, rfl, h, h1, q w H (Ex.refl W.B H) h2⟩)
theorem opt_ixL (e : atI ds i = some d) : OpT W (rIx K) (dt K (.list ds)) (dt K (.int i)) (dt K d) := fun u v H c hu hv Q q => by
  cases hv
  cases hu with
  | lst h _ r =>
    obtain ⟨w, h1, h2⟩ := atI_RpA r e
    exact .inl ⟨_, _, i, w, rfl, rfl, SqL.of h, h1, q w H (Ex.refl W.B H) h2⟩
theorem opt_ixLT {n : Nat} (e : Ts[n]? = some T) : OpT W (rIx K) (lstT Ts) (dt K (.int (n : Int))) T := fun u v H c hu hv Q q => by
  cases hv
  obtain ⟨a, xs, rfl, _, h1, h2⟩ := hu
  obtain ⟨w, h3, h4⟩ := h2.get e
  exact .inl ⟨_, _, (n : Int), w, rfl, rfl, SqL.of h1, atI_nat h3, q w H (Ex.refl W.B H) h4⟩
theorem opt_ixTT {n : Nat} (e : Ts[n]? = some T) : OpT W (rIx K) (tupT K Ts) (dt K (.int (n : Int))) T := fun u v H c hu hv Q q => by
  cases hv
  obtain ⟨a, xs, rfl, h1, h2⟩ := hu
  obtain ⟨w, h3, h4⟩ := h2.get e
  exact .inr (.inl ⟨_, _, (n : Int), w, rfl, rfl, h1, atI_nat h3, q w H (Ex.refl W.B H) h4⟩)
/-! ### calls -/
theorem cbt_len1 {n : Nat} (h : ∀ M H v, Rp M K H v d → LenV K v H n) : CbT W (rLen K) [dt K d] (dt K (.int n)) := fun us H c hu Q q => by
  obtain ⟨v, rfl⟩ : ∃ v, us = [v] := by
    match us, hu with
    | [v], _ => exact ⟨v, rfl⟩
  exact ⟨v, n, rfl, h _ _ _ hu.1, q _ H (Ex.refl W.B H) (.int _)⟩
theorem cbt_lenT : CbT W (rLen K) [dt K (.tuple ds)] (dt K (.int (ds.length : Nat))) := cbt_len1 fun M H v h => by
  cases h with
  | tup h r => exact .inr ⟨_, h, r.length.symm⟩
theorem cbt_lenL : CbT W (rLen K) [dt K (.list ds)] (dt K (.int (ds.length : Nat))) := cbt_len1 fun M H v h => by
  cases h with
  | lst h _ r => exact .inl ⟨_, SqL.of h, r.length.symm⟩
theorem cbt_lenS {x : Str} (hz : x.length ≤ 1000000) : CbT W (rLen K) [dt K (.str x)] (dt K (.int (x.length : Nat))) := cbt_len1 fun M H v h => by
  cases h
  exact ⟨sz_le hz, rfl⟩
theorem cbt_lenLT : CbT W (rLen K) [lstT Ts] (dt K (.int (Ts.length : Nat))) := fun us H c hu Q q => by
  match us, hu with
  | [v], hu =>
    obtain ⟨⟨a, xs, rfl, _, h1, h2⟩, _⟩ := hu
    exact ⟨_, Ts.length, rfl, .inl ⟨xs, SqL.of h1, h2.length.symm⟩, q _ H (Ex.refl W.B H) (.int _)⟩
def tyD : PyData → String
  | .none => "NoneType"
  | .bool _ => "bool"
  | .int _ => "int"
  | .str _ => "str"
  | .list _ => "list"
  | .tuple _ => "tuple"
  | .dict _ => "dict"
theorem Rp.ty {M : Addr → Prop} {H : Hp} {v : V} (h : Rp M K H v d) : TyX K H v (.type (tyD d)) := by
  cases h with
  | non => exact .base .non
  | bl b => exact .base (.bl b)
  | int i => exact .base (.int i)
  | str x => exact .base (.str x)
  | lst h _ _ => exact .base (.lst h)
  | tup h _ =>
    rcases h with (h | ⟨o, h⟩) | ⟨o, its, n, h1, h2, _⟩
    · exact .base (.tup h)
    · exact .fTuple h
    · exact .kTuple h1 h2
  | dic h _ => exact .base (.dK h)
/-- isinstance of data -/
def isD (d : PyData) (T : String) : Bool := tyD d == T || (tyD d == "bool" && T == "int")
theorem kit_all : (["NoneType", "bool", "int", "str", "list", "tuple", "dict"].all fun t => ["int", "bool", "str", "list", "tuple", "dict"].all fun T => kitB t T == some (t == T || (t == "bool" && T == "int"))) = true := by decide +kernel
theorem tyD_mem (d : PyData) : tyD d ∈ ["NoneType", "bool", "int", "str", "list", "tuple", "dict"] := match d with
  | .none => .head _
  | .bool _ => .tail _ (.head _)
  | .int _ => .tail _ (.tail _ (.head _))
  | .str _ => .tail _ (.tail _ (.tail _ (.head _)))
  | .list _ => .tail _ (.tail _ (.tail _ (.tail _ (.head _))))
  | .tuple _ => .tail _ (.tail _ (.tail _ (.tail _ (.tail _ (.head _)))))
  | .dict _ => .tail _ (.tail _ (.tail _ (.tail _ (.tail _ (.tail _ (.head _))))))
theorem kitD {T : String} (h : T ∈ ["int", "bool", "str", "list", "tuple", "dict"]) : PySem.W.kitOne K (.type (tyD d)) (.type T) = some (isD d T) :=
  kit_ty (beq_iff_eq.mp (List.all_eq_true.mp (List.all_eq_true.mp kit_all _ (tyD_mem d)) _ h))
theorem cbt_isi {T : String} (h : T ∈ ["int", "bool", "str", "list", "tuple", "dict"] := by decide) : CbT W (rIsi K) [dt K d, isV (.ty T)] (dt K (.bool (isD d T))) := fun us H c hu Q q => by
  match us, hu with
  | [v, t], hu =>
    obtain ⟨h1, h2, _⟩ := hu
    cases h2
    exact ⟨v, .ty T, _, .type T, _, rfl, .ty T, Rp.ty h1, kitD h, q _ H (Ex.refl W.B H) (.bl _)⟩
theorem ty_isi2 {te : TE} {T S : String} (h : Ty W Γ te (dt K d)) (hT : T ∈ ["int", "bool", "str", "list", "tuple", "dict"] := by decide) (hS : S ∈ ["int", "bool", "str", "list", "tuple", "dict"] := by decide) :
    Ty W Γ (tCB (rIsiT K) (tCons te (tCons (tTup (tCons (tC (.ty T)) (tCons (tC (.ty S)) tNil))) tNil))) (dt K (.bool (isD d T || isD d S))) := fun σ H c g Q q => by
  refine h σ H c g _ fun v H1 e1 hv => ⟨sz_le (by show 2 ≤ 1000000; decide), fun p hp => ?_⟩
  refine ⟨v, p, [.ty T, .ty S], _, [.type T, .type S], _, rfl, upd_same, .cons (.ty T) (.cons (.ty S) .nil), Rp.ty (Rp.up (Ex.new (B := W.B) hp).toW hv), ?_, q _ _ (e1.trans (Ex.new hp)) (.bl _)⟩
  refine kitAny_cons (kitD hT) (fun z => kitAny_cons (kitD hS) (fun z' => ?_) fun z' => ?_) fun z => ?_
  · rw [z, z']; exact kitAny_nil
  · rw [z, z']; rfl
  · rw [z]; rfl
end
end Ew

end
section
set_option Elab.async false
set_option linter.all false
set_option maxRecDepth 100000
set_option maxHeartbeats 1000000
/-! EwD: walks, comprehensions, loops, by types. -/
namespace Ew
open PySem PySem.Spec PyProof.Rows L2
theorem TysV.one {M B : Addr → Prop} {A : Typ} {us : List V} {H : Hp} (h : TysV M B [A] us H) : ∃ v, us = [v] ∧ A.p M B v H := by
  match us, h with
  | [v], h => exact ⟨v, rfl, h.1⟩
theorem TysV.two {M B : Addr → Prop} {A C : Typ} {us : List V} {H : Hp} (h : TysV M B [A, C] us H) : ∃ v w, us = [v, w] ∧ A.p M B v H ∧ C.p M B w H := by
  match us, h with
  | [v, w], h => exact ⟨v, w, rfl, h.1, h.2.1⟩
/-- M, or M and something new -/
def MOk (W : Wd) (H : Hp) (M' : Addr → Prop) : Prop := M' = W.M ∨ ∃ D, H D = none ∧ M' = ad W.M D
theorem MOk.tys {W : Wd} {H : Hp} {M' : Addr → Prop} (m : MOk W H M') {Ts : List Typ} {xs : List V} (h : TysV W.M W.B Ts xs H) : TysV M' W.B Ts xs H := by
  rcases m with rfl | ⟨D, n, rfl⟩
  · exact h
  · exact h.weak n
theorem MOk.nm {W : Wd} {H : Hp} {M' : Addr → Prop} (m : MOk W H M') {a : Addr} {o : HO} (h : H a = some o) (n : ¬ W.M a) : ¬ M' a := by
  rcases m with rfl | ⟨D, q, rfl⟩
  · exact n
  · exact fun z => z.elim n (ne_of_none h q)
theorem MOk.sub {W : Wd} {H : Hp} {M' : Addr → Prop} (m : MOk W H M') : ∀ a, W.B a → M' a := by
  rcases m with rfl | ⟨D, q, rfl⟩
  · exact W.sub
  · exact fun a h => .inl (W.sub a h)
/-- from H on the walk J yields values of the types Ts -/
def WalkT (W : Wd) (J : It) (Ts : List Typ) (H : Hp) : Prop := ∃ (G : Hp → Prop) (Y : Nat → Hp → V → Hp → Prop), Walk J Ts.length G Y ∧ G H ∧ ∀ M', MOk W H M' → (∀ Ha Hb, Exm M' W.B Ha Hb → G Ha → G Hb) ∧
  ∀ i Ha x Hb T, Ts[i]? = some T → Exm M' W.B H Ha → G Ha → Y i Ha x Hb → Ex W.B Ha Hb ∧ T.p M' W.B x Hb
section
variable (W : Wd) (Γ : Gam)
def TyI (wi : TI) (Ts : List Typ) : Prop := ∀ σ H, Cxt W H → EnvW W Γ σ H → ∀ R : It → Hp → Prop, (∀ J H1, Ex W.B H H1 → WalkT W J Ts H1 → R J H1) → wi σ H R
/-- a target: the slots behind it -/
def TyG (g : TG) (T : Typ) (Γ' : Gam) : Prop := ∀ v σ H, Cxt W H → EnvW W Γ σ H → T.at W v H → ∀ Q : Sx → Hp → Prop, (∀ σ' H', Ex W.B H H' → EnvW W Γ' σ' H' → Q σ' H') → g v σ H Q
def TyGs (g : TGs) (Ts : List Typ) (Γ' : Gam) : Prop := ∀ vs σ H, Cxt W H → EnvW W Γ σ H → TysV W.M W.B Ts vs H → ∀ Q : Sx → Hp → Prop, (∀ σ' H', Ex W.B H H' → EnvW W Γ' σ' H' → Q σ' H') → g vs σ H Q
end
/-- the target changes slots of vs alone; what is asked may be weakened -/
structure GOk (g : TG) (vs : List Nat) : Prop where
  kept : ∀ v σ H Q, g v σ H Q → g v σ H fun σ' H' => L2.wipe σ' vs = L2.wipe σ vs ∧ Q σ' H'
  mono : ∀ v σ H (Q Q' : Sx → Hp → Prop), (∀ σ' H', Q σ' H' → Q' σ' H') → g v σ H Q → g v σ H Q'
structure GsOk (g : TGs) (vs : List Nat) : Prop where
  kept : ∀ v σ H Q, g v σ H Q → g v σ H fun σ' H' => L2.wipe σ' vs = L2.wipe σ vs ∧ Q σ' H'
  mono : ∀ v σ H (Q Q' : Sx → Hp → Prop), (∀ σ' H', Q σ' H' → Q' σ' H') → g v σ H Q → g v σ H Q'
theorem wipe_set {i : Nat} {x : Option V} : ∀ {vs : List Nat} {σ : Sx}, i ∈ vs → L2.wipe (σ.set i x) vs = L2.wipe σ vs
  | [], _, h => by cases h
  | v :: vs, σ, h => by
    show (L2.wipe (σ.set i x) vs).set v none = (L2.wipe σ vs).set v none
    by_cases e : i ∈ vs
    · rw [wipe_set e]
    · have ev : i = v := by
        rcases List.mem_cons.mp h with z | z
        · exact z
        · exact absurd z e
      subst ev
      have comm : ∀ {ws : List Nat} {τ : Sx}, i ∉ ws → L2.wipe (τ.set i x) ws = (L2.wipe τ ws).set i x := by
        intro ws
        induction ws with
        | nil => intro τ _; rfl
        | cons w ws ih =>
          intro τ hn
          have h1 : i ≠ w := fun z => hn (by rw [z]; exact List.mem_cons_self ..)
          have h2 : i ∉ ws := fun z => hn (List.mem_cons_of_mem _ z)
          show (L2.wipe (τ.set i x) ws).set w none = ((L2.wipe τ ws).set w none).set i x
          rw [ih h2, List.set_comm _ _ h1]
      rw [comm e, List.set_set]
theorem wipe_wipe {σ : Sx} {vs : List Nat} : ∀ {ws : List Nat}, (∀ v ∈ ws, v ∈ vs) → L2.wipe (L2.wipe σ ws) vs = L2.wipe σ vs
  | [], _ => rfl
  | w :: ws, h => by
    show L2.wipe ((L2.wipe σ ws).set w none) vs = _
    rw [wipe_set (h w (List.mem_cons_self ..)), wipe_wipe fun v hv => h v (List.mem_cons_of_mem _ hv)]
section
variable {W : Wd} {Γ Γ' : Gam} {K : PySem.W.Frag} {T U A C P : Typ} {Ts Us : List Typ} {ds : List PyData} {d : PyData} {ta : TA} {te : TE} {g : TG} {gs : TGs} {vs : List Nat}
theorem gok_name (i : Nat) (h : i ∈ vs) : GOk (gName i) vs := ⟨fun v σ H Q q => ⟨wipe_set h, q⟩, fun _ _ _ _ _ h q => h _ _ q⟩
theorem gok_nil : GsOk gNil vs := ⟨fun v σ H Q ⟨h, q⟩ => ⟨h, rfl, q⟩, fun _ _ _ _ _ h q => ⟨q.1, h _ _ q.2⟩⟩
theorem gok_cons (h : GOk g vs) (k : GsOk gs vs) : GsOk (gCons g gs) vs :=
  ⟨fun v σ H Q ⟨x, r, e, q⟩ => ⟨x, r, e, h.mono _ _ _ _ _ (fun σ1 H1 ⟨w1, z⟩ => k.mono _ _ _ _ _ (fun σ2 H2 ⟨w2, z2⟩ => ⟨w2.trans w1, z2⟩) (k.kept _ _ _ _ z)) (h.kept _ _ _ _ q)⟩,
    fun v σ H Q Q' hq ⟨x, r, e, q⟩ => ⟨x, r, e, h.mono _ _ _ _ _ (fun σ' H' z => k.mono _ _ _ _ _ hq z) q⟩⟩
theorem gok_tup {n : Nat} (h : GsOk gs vs) : GOk (gTup K n gs) vs := ⟨fun v σ H Q ⟨a, xs, e, s, l, q⟩ => ⟨a, xs, e, s, l, h.kept _ _ _ _ q⟩, fun v σ H Q Q' hq ⟨a, xs, e, s, l, q⟩ => ⟨a, xs, e, s, l, h.mono _ _ _ _ _ hq q⟩⟩
theorem gok_unl {n : Nat} (h : GsOk gs vs) : GOk (gUnl K n gs) vs := ⟨fun v σ H Q ⟨a, xs, e, s, l, q⟩ => ⟨a, xs, e, s, l, h.kept _ _ _ _ q⟩, fun v σ H Q Q' hq ⟨a, xs, e, s, l, q⟩ => ⟨a, xs, e, s, l, h.mono _ _ _ _ _ hq q⟩⟩
theorem tyg_name (i : Nat) : TyG W Γ (gName i) T (Γ.set i (some T)) := fun v σ H c g hv Q q => q _ H (Ex.refl _ _) (EnvL.set hv g)
theorem tygs_nil : TyGs W Γ gNil [] Γ := fun vs σ H c g hv Q q => by
  match vs, hv with
  | [], _ => exact ⟨rfl, q _ _ (Ex.refl _ _) g⟩
theorem tygs_cons {Γ1 Γ2 : Gam} (h : TyG W Γ g T Γ1) (k : TyGs W Γ1 gs Ts Γ2) : TyGs W Γ (gCons g gs) (T :: Ts) Γ2 := fun vs σ H c e hv Q q => by
  match vs, hv with
  | v :: vs, hv => exact ⟨v, vs, rfl, h v σ H c e hv.1 _ fun σ1 H1 e1 g1 => k vs σ1 H1 (c.up e1) g1 (hv.2.up e1.toW) Q fun σ2 H2 e2 g2 => q σ2 H2 (e1.trans e2) g2⟩
theorem tyg_tup {n : Nat} (h : TyGs W Γ gs Ts Γ') (hn : Ts.length = n := by rfl) : TyG W Γ (gTup K n gs) (tupT K Ts) Γ' := fun v σ H c g ⟨a, xs, h1, h2, h3⟩ Q q => ⟨a, xs, h1, h2, by rw [h3.length, hn], h xs σ H c g h3 Q q⟩
theorem tyg_unl {n : Nat} (h : TyGs W Γ gs Ts Γ') (hn : Ts.length = n := by rfl) : TyG W Γ (gUnl K n gs) (lstT Ts) Γ' := fun v σ H c g ⟨a, xs, h1, h0, h2, h3⟩ Q q => ⟨a, xs, h1, SqL.of h2, by rw [h3.length, hn], h xs σ H c g h3 Q q⟩
theorem TyG.sub (h : TyG W Γ g T Γ') (k : ∀ v H, U.at W v H → T.at W v H) : TyG W Γ g U Γ' := fun v σ H c e hv Q q => h v σ H c e (k v H hv) Q q
/-! ### what is walked -/
/-- over a tuple -/
theorem tyi_tup (h : Ty W Γ te (tupT K Ts)) : TyI W Γ (iTup K te) Ts := fun σ H c g R q => h σ H c g _ fun v H1 e ⟨a, xs, h1, h2, h3⟩ => by
  subst h1
  refine ⟨a, rfl, ⟨xs, h2⟩, q _ H1 e ⟨fun H => SqT K H a xs, YAt xs, by rw [← h3.length]; exact walk_tup, h2, fun M' m => ⟨fun Ha Hb f z => f.sqT z, fun i Ha x Hb T hT f z y => ?_⟩⟩⟩
  obtain ⟨rfl, y⟩ := y
  obtain ⟨w, h4, h5⟩ := (m.tys h3).get hT
  rw [h4] at y; cases y
  exact ⟨Ex.refl _ _, T.up f h5⟩
theorem tyi_tupD (h : Ty W Γ te (dt K (.tuple ds))) : TyI W Γ (iTup K te) (ds.map (dt K)) := tyi_tup (h.sub fun _ _ _ => data_tupT)
/-- over a list that stays -/
theorem tyi_lst (h : Ty W Γ te (lstT Ts)) : TyI W Γ (iList K te) Ts := fun σ H c g R q => h σ H c g _ fun v H1 e ⟨a, xs, h1, h0, h2, h3⟩ => by
  subst h1
  refine ⟨a, rfl, ⟨xs, SqL.of h2⟩, q _ H1 e ⟨fun H => SqL K H a xs, YAt xs, by rw [← h3.length]; exact walk_list, SqL.of h2, fun M' m => ⟨fun Ha Hb f z => f.sqL (m.nm h2 h0) z, fun i Ha x Hb T hT f z y => ?_⟩⟩⟩
  obtain ⟨rfl, y⟩ := y
  obtain ⟨w, h4, h5⟩ := (m.tys h3).get hT
  rw [h4] at y; cases y
  exact ⟨Ex.refl _ _, T.up f h5⟩
theorem tyi_lstD (h : Ty W Γ te (dt K (.list ds))) : TyI W Γ (iList K te) (ds.map (dt K)) := tyi_lst (h.sub fun _ _ _ => data_lstT)
theorem range_map_get {f : Nat → Typ} {n i : Nat} {T : Typ} (h : ((List.range n).map f)[i]? = some T) : i < n ∧ T = f i := by
  rw [List.getElem?_map] at h
  cases hr : (List.range n)[i]? with
  | none => rw [hr] at h; cases h
  | some k =>
    rw [hr] at h
    obtain ⟨hl, ek⟩ := List.getElem?_eq_some_iff.mp hr
    rw [List.getElem_range] at ek
    subst ek
    rw [List.length_range] at hl
    cases h
    exact ⟨hl, rfl⟩
/-- range(n) -/
theorem tyi_rng1 {n : Int} (h : TyA W Γ ta [dt K (.int n)]) (hn : n ≤ 1000000000) (h0 : -1000000000 ≤ n) : TyI W Γ (iRng1 ta) ((List.range n.toNat).map fun i => dt K (.int (i : Nat))) := fun σ H c g R q => h σ H c g _ fun us H1 e hu => by
  obtain ⟨v, rfl, h1⟩ := hu.one
  cases h1
  refine ⟨n, rfl, by omega, by omega, q _ H1 e ⟨fun _ => True, YFn fun i => .int (0 + i), by rw [List.length_map, List.length_range]; exact walk_range, True.intro, fun M' m => ⟨fun _ _ _ _ => True.intro, fun i Ha x Hb T hT f z y => ?_⟩⟩⟩
  obtain ⟨rfl, y⟩ := y
  obtain ⟨hl, rfl⟩ := range_map_get hT
  subst y
  refine ⟨Ex.refl _ _, ?_⟩
  show Rp M' K Hb (V.int (0 + (i : Int))) (.int (i : Int))
  rw [Int.zero_add]
  exact .int _
/-- enumerate(list) -/
theorem tyi_enumL (h : TyA W Γ ta [lstT Ts]) : TyI W Γ (iEnum K ta) ((List.range Ts.length).map fun i => tupT K [dt K (.int (i : Nat)), Ts.getD i (isV .non)]) := fun σ H c g R q => h σ H c g _ fun us H1 e hu => by
  obtain ⟨v, rfl, a, xs, rfl, h0, h2, h3⟩ := hu.one
  refine ⟨a, xs, rfl, SqL.of h2, q _ H1 e ⟨fun H => SqL K H a xs, YPair (fun i => some (.int (i : Nat))) (fun i => xs[i]?), by rw [List.length_map, List.length_range, ← h3.length]; exact walk_enum, SqL.of h2, fun M' m => ⟨fun Ha Hb f z => f.sqL (m.nm h2 h0) z, fun i Ha x Hb T hT f z y => ?_⟩⟩⟩
  obtain ⟨Tp, x0, y0, rfl, hn, rfl, ex, ey⟩ := y
  cases ex
  obtain ⟨hl, rfl⟩ := range_map_get hT
  obtain ⟨w, h4, h5⟩ := (m.tys h3).get (List.getElem?_eq_getElem hl)
  have ey' := h4.symm.trans ey
  cases ey'
  refine ⟨Ex.new hn, Tp, _, rfl, SqT.of upd_same, .int _, ?_, True.intro⟩
  show (Ts.getD i (isV .non)).p M' W.B y0 _
  rw [List.getD_eq_getElem?_getD, List.getElem?_eq_getElem hl]
  exact Typ.up _ (f.trans ((Ex.new (B := W.B) hn).toM m.sub)) h5
theorem zip_len {a b x y : Nat} (h : a = x) (k : b = y) : min x y = min a b := by rw [h, k]
theorem walk_zipT {a b : Addr} {xs ys : List V} {n : Nat} (hn : n = min xs.length ys.length) : Walk (RZ.ItzT K a b) n (fun H => SqT K H a xs ∧ SqT K H b ys) (YPair (fun i => xs[i]?) (fun i => ys[i]?)) := by
  subst hn
  refine ⟨fun i _ hi q => ?_, fun _ q => ⟨xs, ys, q.1, q.2, by omega⟩, fun i H v H' _ q y => ?_⟩
  · have h1 : i < xs.length := by omega
    have h2 : i < ys.length := by omega
    exact ⟨xs, ys, xs[i], ys[i], q.1, q.2, by simp [h1], by simp [h2]⟩
  · obtain ⟨T, x, z, h1, h2, h3, h4, h5⟩ := y
    exact ⟨T, x, z, h1, h2, h3, h4 xs q.1, h5 ys q.2⟩
theorem zip_map_get {i : Nat} {f : Typ × Typ → Typ} (h : ((Ts.zip Us).map f)[i]? = some T) : ∃ A C, Ts[i]? = some A ∧ Us[i]? = some C ∧ T = f (A, C) := by
  rw [List.getElem?_map] at h
  cases hr : (Ts.zip Us)[i]? with
  | none => rw [hr] at h; cases h
  | some p =>
    rw [hr] at h
    cases h
    obtain ⟨q1, q2⟩ := List.getElem?_zip_eq_some.mp hr
    exact ⟨_, _, q1, q2, rfl⟩
/-- zip of two tuples -/
theorem tyi_zipT (h : TyA W Γ ta [tupT K Ts, tupT K Us]) : TyI W Γ (RZ.iZipA K ta) ((Ts.zip Us).map fun p => tupT K [p.1, p.2]) := fun σ H c g R q => h σ H c g _ fun us H1 e hu => by
  obtain ⟨v, w, rfl, ⟨a, xs, rfl, h2, h3⟩, ⟨b, ys, rfl, h4, h5⟩⟩ := hu.two
  refine ⟨a, b, xs, ys, rfl, .inr ⟨h2, h4, q _ H1 e ⟨fun H => SqT K H a xs ∧ SqT K H b ys, YPair (fun i => xs[i]?) (fun i => ys[i]?), ?_, ⟨h2, h4⟩, fun M' m => ⟨fun Ha Hb f z => ⟨f.sqT z.1, f.sqT z.2⟩, fun i Ha x Hb T hT f z y => ?_⟩⟩⟩⟩
  · refine walk_zipT ?_
    rw [List.length_map, List.length_zip]
    exact zip_len h3.length h5.length
  · obtain ⟨Tp, x0, y0, rfl, hn, rfl, ex, ey⟩ := y
    obtain ⟨A, C, q1, q2, rfl⟩ := zip_map_get hT
    obtain ⟨x1, e1, r1⟩ := (m.tys h3).get q1
    obtain ⟨y1, e2, r2⟩ := (m.tys h5).get q2
    have ex' := e1.symm.trans ex
    cases ex'
    have ey' := e2.symm.trans ey
    cases ey'
    exact ⟨Ex.new hn, Tp, _, rfl, SqT.of upd_same, Typ.up _ (f.trans ((Ex.new (B := W.B) hn).toM m.sub)) r1, Typ.up _ (f.trans ((Ex.new (B := W.B) hn).toM m.sub)) r2, True.intro⟩
theorem filter_range_succ {f : Nat → Bool} {F : Nat → Typ} {n : Nat} : ((List.range (n + 1)).filter f).map F = ((List.range n).filter f).map F ++ (if f n = true then [F n] else []) := by
  rw [List.range_succ, List.filter_append, List.map_append]
  congr 1
  cases h : f n <;> simp [h]
theorem filter_range_len {f : Nat → Bool} {F : Nat → Typ} (n : Nat) : (((List.range n).filter f).map F).length ≤ n := by
  rw [List.length_map]
  exact Nat.le_trans (List.length_filter_le _ _) (by rw [List.length_range]; exact Nat.le_refl _)
/-! ### comprehensions -/
theorem tyl_lc {wi : TI} {tt : TT} (f : Nat → Bool) (F : Nat → Typ) (hi : TyI W Γ wi Ts) (hz : Ts.length ≤ 1000000) (gk : GOk g vs)
    (hs : ∀ (W' : Wd) i T, Ts[i]? = some T → ∃ Γi, TyG W' (wipeG Γ vs) g T Γi ∧ Tt W' Γi tt (· = f i) ∧ (f i = true → Ty W' Γi te (F i))) :
    TyL W Γ (tLc wi g tt te vs) (((List.range Ts.length).filter f).map F) := fun σ H c e Q q => by
  refine hi σ H c e _ fun J H1 e1 hw => ?_
  intro D hD
  obtain ⟨G, Y, w, hG, hup⟩ := hw
  obtain ⟨hup, hy⟩ := hup (W.ad D).M (.inr ⟨D, hD, rfl⟩)
  have c1 := c.up e1
  have bD : ¬ W.B D := c1.nb hD
  have toD : ∀ {Ha Hb : Hp}, Ex W.B Ha Hb → Exm (W.ad D).M W.B Ha Hb := fun z => Ex.toW (W := W.ad D) z
  have cD : ∀ {H2 : Hp}, Ex W.B H1 H2 → H2 D ≠ none → Cxt (W.ad D) H2 := fun {H2} e2 n => ⟨(c1.up e2).box, fun a h z => by
    rcases h with h | h
    · exact (c1.up e2).al a h z
    · rw [h] at z; exact n z, (c1.up e2).ex, (c1.up e2).own⟩
  have env1 : EnvL (W.ad D).M W.B Γ σ H1 := EnvL.weak hD (e.up e1.toW)
  refine lc_it w (fun i H2 => Ex W.B H1 H2 ∧ G H2 ∧ ∃ acc, H2 D = some (.lst acc) ∧ TysV (W.ad D).M W.B (((List.range i).filter f).map F) acc H2) ?_ (fun i H2 _ h => h.2.1) ?_ ?_
  · exact ⟨Ex.new hD, hup _ _ (toD (Ex.new hD)) hG, [], upd_same, True.intro⟩
  · rintro i x H2 H3 hi ⟨e2, hG2, acc, hacc, ht⟩ hx
    have hT : Ts[i]? = some (Ts[i]'hi) := List.getElem?_eq_getElem hi
    obtain ⟨e3, hxt⟩ := hy i H2 x H3 _ hT (toD e2) hG2 hx
    obtain ⟨Γi, k1, k2, k3⟩ := hs (W.ad D) i _ hT
    have d3 : H3 D = some (.lst acc) := e3.keep hacc bD
    have some_ne : ∀ {Hx : Hp} {o : HO}, Hx D = some o → Hx D ≠ none := fun h z => by rw [h] at z; cases z
    have env3 : EnvL (W.ad D).M W.B (wipeG Γ vs) (L2.wipe σ vs) H3 := (env1.up (toD (e2.trans e3))).wipe vs
    refine gk.mono _ _ _ _ _ ?_ (gk.kept _ _ _ _ (k1 x _ H3 (cD (e2.trans e3) (some_ne d3)) env3 hxt (fun σ4 H4 => Ex W.B H3 H4 ∧ EnvL (W.ad D).M W.B Γi σ4 H4) fun σ4 H4 e4 g4 => ⟨e4, g4⟩))
    rintro σ4 H4 ⟨w4, e4, g4⟩
    refine ⟨w4.trans (wipe_wipe fun _ h => h) |>.trans (wipe_wipe fun _ h => h).symm |>.trans (wipe_wipe fun _ h => h), ?_⟩
    have d4 : H4 D = some (.lst acc) := e4.keep d3 bD
    have e24 := e2.trans (e3.trans e4)
    refine k2 σ4 H4 (cD e24 (some_ne d4)) g4 _ fun b H5 e5 hb => ?_
    have e5' : Ex W.B H4 H5 := e5
    have d5 : H5 D = some (.lst acc) := e5'.keep d4 bD
    have lacc : acc.length ≤ i := by rw [ht.length]; exact filter_range_len i
    have e25 := (e3.trans e4).trans e5'
    cases b with
    | true =>
      rw [if_pos rfl]
      refine k3 hb.symm σ4 H5 (cD (e24.trans e5') (some_ne d5)) (g4.up (toD e5')) _ fun y H6 e6 hy6 => ?_
      have e6' : Ex W.B H5 H6 := e6
      have d6 : H6 D = some (.lst acc) := e6'.keep d5 bD
      have put : Exm (W.ad D).M W.B H6 (upd H6 D (.lst (acc ++ [y]))) := Exm.put (.inr rfl) bD d6
      refine ⟨acc, d6, sz_lt (by omega), ((e24.trans e5').trans e6').mut hD, hup _ _ put (hup _ _ (toD (e25.trans e6')) hG2), acc ++ [y], upd_same, ?_⟩
      rw [filter_range_succ, ← hb, if_pos rfl]
      exact ((ht.up (toD (e25.trans e6'))).append (show TysV (W.ad D).M W.B [F i] [y] H6 from ⟨hy6, True.intro⟩)).up put
    | false =>
      rw [if_neg Bool.false_ne_true]
      refine ⟨e24.trans e5', hup _ _ (toD e25) hG2, acc, d5, ?_⟩
      rw [filter_range_succ, ← hb, if_neg Bool.false_ne_true, List.append_nil]
      exact ht.up (toD e25)
  · rintro H2 ⟨e2, hG2, acc, hacc, ht⟩
    exact q D acc H2 (e1.trans e2) (e1.free hD) hacc ht.drop
theorem filter_yes {n : Nat} : (List.range n).filter (fun _ => true) = List.range n := List.filter_eq_self.mpr fun _ _ => rfl
/-- without a test -/
theorem tyl_lc1 {wi : TI} (F : Nat → Typ) (hi : TyI W Γ wi Ts) (hz : Ts.length ≤ 1000000) (gk : GOk g vs)
    (hs : ∀ (W' : Wd) i T, Ts[i]? = some T → ∃ Γi, TyG W' (wipeG Γ vs) g T Γi ∧ Ty W' Γi te (F i)) :
    TyL W Γ (tLc wi g tYes te vs) ((List.range Ts.length).map F) := by
  have h := tyl_lc (tt := tYes) (fun _ => true) F hi hz gk fun W' i T hT => by
    obtain ⟨Γi, h1, h2⟩ := hs W' i T hT
    exact ⟨Γi, h1, fun σ H c e Q q => q true H (Ex.refl _ _) rfl, fun _ => h2⟩
  rw [filter_yes] at h
  exact h
/-! ### loops -/
variable {N : Sx → Hp → Prop} {R : V → Hp → Prop} {Bk Ct : Sx → Hp → Prop}
/-- for: before turn i the slots are Γi i x in the world Wi i x, for some x -/
theorem tys_for {α : Type} {wi : TI} {tb : TS} (Wi : Nat → α → Wd) (Γi : Nat → α → Gam) (x0 : α) (hi : TyI W Γ wi Ts) (like : ∀ i x, W.Like (Wi i x)) (h0 : ∀ σ H, nE W Γ σ H → nE (Wi 0 x0) (Γi 0 x0) σ H)
    (hs : ∀ i T x, Ts[i]? = some T → ∃ Γt, TyG (Wi i x) (Γi i x) g T Γt ∧ TyS (Wi i x) Γt tb (fun σ H => ∃ y, nE (Wi (i + 1) y) (Γi (i + 1) y) σ H) R N (fun σ H => ∃ y, nE (Wi (i + 1) y) (Γi (i + 1) y) σ H))
    (hd : ∀ x σ H, nE (Wi Ts.length x) (Γi Ts.length x) σ H → N σ H) : TyS W Γ (tFor wi g tb) N R Bk Ct := fun σ H c e D dn dr db dc => by
  refine hi σ H c e _ fun J H1 e1 hw => ?_
  obtain ⟨G, Y, w, hG, hup⟩ := hw
  obtain ⟨hup, hy⟩ := hup W.M (.inl rfl)
  refine for_it w (D := D) (fun i σ2 H2 => Exm W.M W.B H1 H2 ∧ G H2 ∧ ∃ x, nE (Wi i x) (Γi i x) σ2 H2) ?_ (fun i σ2 H2 _ h => h.2.1) ?_ ?_
  · exact ⟨Exm.refl _ _ _, hG, x0, h0 σ H1 ⟨c.up e1, e.up e1.toW⟩⟩
  · rintro i v σ2 H2 H3 hi ⟨e2, hG2, x, c2, g2⟩ hx
    have hT : Ts[i]? = some (Ts[i]'hi) := List.getElem?_eq_getElem hi
    obtain ⟨e3, hxt⟩ := hy i H2 v H3 _ hT e2 hG2 hx
    obtain ⟨Γt, k1, k2⟩ := hs i _ x hT
    have l := like i x
    have e3' : Ex (Wi i x).B H2 H3 := by rw [l.b]; exact e3
    have hxt' : (Ts[i]'hi).at (Wi i x) v H3 := by show Typ.p _ _ _ _ _; rw [l.m, l.b]; exact hxt
    refine k1 v σ2 H3 (c2.up e3') (g2.up e3'.toW) hxt' _ fun σ4 H4 e4 g4 => ?_
    have e4b : Ex W.B H3 H4 := by rw [← l.b]; exact e4
    have e24 : Exm W.M W.B H2 H4 := (e3.trans e4b).toW
    refine k2 σ4 H4 ((c2.up e3').up e4) g4 _ (fun σ5 H5 e5 n5 => ⟨e2.trans (e24.trans (l.exm e5)), hup _ _ (e24.trans (l.exm e5)) hG2, n5⟩) dr (fun σ5 H5 e5 n5 => dn σ5 H5 (e1.toW.trans (e2.trans (e24.trans (l.exm e5)))) n5)
      (fun σ5 H5 e5 n5 => ⟨e2.trans (e24.trans (l.exm e5)), hup _ _ (e24.trans (l.exm e5)) hG2, n5⟩)
  · rintro σ2 H2 ⟨e2, hG2, x, n2⟩
    exact dn σ2 H2 (e1.toW.trans e2) (hd x σ2 H2 n2)
/-! ### calls that take a list -/
theorem lst_sq {M B : Addr → Prop} {v : V} {H : Hp} (h : (lstT Ts).p M B v H) : ∃ a xs, v = .ref a ∧ SqL K H a xs ∧ TysV M B Ts xs H := by
  obtain ⟨a, xs, h1, _, h2, h3⟩ := h
  exact ⟨a, xs, h1, SqL.of h2, h3⟩
theorem tys_ints {M B : Addr → Prop} {H : Hp} : ∀ {ns : List Int} {xs : List V}, TysV M B (ns.map fun n => dt K (.int n)) xs H → xs = ns.map V.int
  | [], [], _ => rfl
  | n :: ns, x :: xs, h => by
    obtain ⟨h1, h2⟩ := h
    cases h1
    rw [tys_ints h2, List.map_cons]
  | [], _ :: _, h => h.elim
  | _ :: _, [], h => h.elim
theorem tys_bools {M B : Addr → Prop} {H : Hp} : ∀ {bs : List Bool} {xs : List V}, TysV M B (bs.map fun b => dt K (.bool b)) xs H → xs = bs.map V.bl
  | [], [], _ => rfl
  | n :: ns, x :: xs, h => by
    obtain ⟨h1, h2⟩ := h
    cases h1
    rw [tys_bools h2, List.map_cons]
  | [], _ :: _, h => h.elim
  | _ :: _, [], h => h.elim
theorem cbt_sum {ns : List Int} : CbT W (rSum K) [lstT (ns.map fun n => dt K (.int n))] (dt K (.int ns.sum)) := fun us H c hu Q q => by
  obtain ⟨v, rfl, h⟩ := hu.one
  obtain ⟨a, xs, rfl, h1, h2⟩ := lst_sq (K := K) h
  have e := tys_ints h2
  subst e
  exact ⟨a, ns, rfl, h1, q _ H (Ex.refl _ _) (.int _)⟩
theorem cbt_all {bs : List Bool} : CbT W (rAll K) [lstT (bs.map fun b => dt K (.bool b))] (dt K (.bool (bs.all id))) := fun us H c hu Q q => by
  obtain ⟨v, rfl, h⟩ := hu.one
  obtain ⟨a, xs, rfl, h1, h2⟩ := lst_sq (K := K) h
  have e := tys_bools h2
  subst e
  exact ⟨a, bs, rfl, h1, q _ H (Ex.refl _ _) (.bl _)⟩
theorem cbt_max {ns : List Int} (hn : ns ≠ []) : CbT W (rMax K) [lstT (ns.map fun n => dt K (.int n))] (exT fun m : Int => gd (m ∈ ns ∧ ∀ y, y ∈ ns → y ≤ m) (dt K (.int m))) := fun us H c hu Q q => by
  obtain ⟨v, rfl, h⟩ := hu.one
  obtain ⟨a, xs, rfl, h1, h2⟩ := lst_sq (K := K) h
  have e := tys_ints h2
  subst e
  exact ⟨a, ns, rfl, h1, List.length_pos_iff.mpr hn, fun m m1 m2 => q _ H (Ex.refl _ _) ⟨m, ⟨m1, m2⟩, .int _⟩⟩
def rTupOf (K : PySem.W.Frag) : List V → Hp → VK → Prop := fun xs H Q => ∃ p ys, xs = [.ref p] ∧ ((SqL K H p ys ∧ ∀ l, H l = none → Q (.ref l) (upd H l (.tup ys))) ∨ (SqT K H p ys ∧ Q (.ref p) H))
theorem cbt_tupL : CbT W (rTupOf K) [lstT Ts] (tupT K Ts) := fun us H c hu Q q => by
  obtain ⟨v, rfl, h⟩ := hu.one
  obtain ⟨a, xs, rfl, h1, h2⟩ := lst_sq (K := K) h
  exact ⟨a, xs, rfl, .inl ⟨h1, fun l hl => q _ _ (Ex.new hl) ⟨l, xs, rfl, SqT.of upd_same, h2.up (Ex.new (B := W.B) hl).toW⟩⟩⟩
theorem cbt_tupT : CbT W (rTupOf K) [tupT K Ts] (tupT K Ts) := fun us H c hu Q q => by
  obtain ⟨v, rfl, a, xs, rfl, h1, h2⟩ := hu.one
  exact ⟨a, xs, rfl, .inr ⟨h1, q _ _ (Ex.refl _ _) ⟨a, xs, rfl, h1, h2⟩⟩⟩
def rLstOf (K : PySem.W.Frag) : List V → Hp → VK → Prop := fun xs H Q => ∃ p ys, xs = [.ref p] ∧ (SqL K H p ys ∨ SqT K H p ys) ∧ ∀ l, H l = none → Q (.ref l) (upd H l (.lst ys))
theorem cbl_lstL : CbL W (rLstOf K) [lstT Ts] Ts := fun us H c hu Q q => by
  obtain ⟨v, rfl, h⟩ := hu.one
  obtain ⟨a, xs, rfl, h1, h2⟩ := lst_sq (K := K) h
  exact ⟨a, xs, rfl, .inl h1, fun l hl => q l xs _ (Ex.new hl) hl upd_same (h2.up (Ex.new (B := W.B) hl).toW)⟩
theorem cbl_lstT : CbL W (rLstOf K) [tupT K Ts] Ts := fun us H c hu Q q => by
  obtain ⟨v, rfl, a, xs, rfl, h1, h2⟩ := hu.one
  exact ⟨a, xs, rfl, .inr h1, fun l hl => q l xs _ (Ex.new hl) hl upd_same (h2.up (Ex.new (B := W.B) hl).toW)⟩
/-- tuple([..]) -/
theorem ty_tupOf (h : TyL W Γ te Ts) : Ty W Γ (tCB (rTupOf K) (tCons te tNil)) (tupT K Ts) := ty_cb (tya_cons h.ty tya_nil) cbt_tupL
theorem ty_sumOf {ns : List Int} (h : TyL W Γ te (ns.map fun n => dt K (.int n))) : Ty W Γ (tCB (rSum K) (tCons te tNil)) (dt K (.int ns.sum)) := ty_cb (tya_cons h.ty tya_nil) cbt_sum
theorem ty_allOf {bs : List Bool} (h : TyL W Γ te (bs.map fun b => dt K (.bool b))) : Ty W Γ (tCB (rAll K) (tCons te tNil)) (dt K (.bool (bs.all id))) := ty_cb (tya_cons h.ty tya_nil) cbt_all
end
end Ew

end
section
set_option Elab.async false
set_option linter.all false
set_option maxRecDepth 100000
set_option maxHeartbeats 1000000
/-! EwG: short words for derivations. -/
namespace Ew
open PySem PySem.Spec PyProof.Rows L2
section
variable {X : Cx} {e : Expr} {es : List Expr} {t : TA} {p pos : Pos} {te : TE}
/-- what the text says of a def -/
structure Defn (K : PySem.W.Frag) (mg : Str → Option Value) (x : Str) (f : Addr) (fd : FuncData) (ps : List Str) : Prop where
  g : mg x = some (.ref f)
  k : PySem.W.keepIn K (.ref f) = true
  b : Binds K fd ps []
/-- a name as a target -/
theorem pgn (i : Nat) {x : Str} (nd : X.N.Nodup) (hi : X.N[i]? = some x := by rfl) (hx : Loc X.env.scope x := by first | exact Or.inl rfl | exact Or.inr rfl)
    (hf : X.fn x = true ∨ X.env.scope.names.lookup x = some .local := by first | exact .inl rfl | exact .inr rfl) : PG X (.Name x pos) (gName i) := pg_name nd hi hx hf
/-- x = e -/
theorem pset (i : Nat) {x : Str} {pos' : Pos} (nd : X.N.Nodup) (he : PE X e te) (hi : X.N[i]? = some x := by rfl) (hx : Loc X.env.scope x := by first | exact Or.inl rfl | exact Or.inr rfl) (hs : swapsWith e (some (.Name x pos')) pos.line X.env = pure false := by rfl)
    (hf : X.fn x = true ∨ X.env.scope.names.lookup x = some .local := by first | exact .inl rfl | exact .inr rfl) : PS X (.Assign [.Name x pos'] e pos) (tAsg te (gName i)) := ps_set nd hi hx he hs hf
/-- x = [.. for ..], x no cell -/
theorem psetLc (i : Nat) {y : Str} {py spos : Pos} {elt tg iter : Expr} {ifs : List Expr} {scope : Scope} (own : List (Str × Nat)) {wi : TI} {g : TG} {tt : TT} (nd : X.N.Nodup) (hi : PI X tg iter wi)
    (hg : ∀ (s : Shared) (H : Hp) (C : Addr) (cl : List (Str × Addr)) (fp : List Addr), PG (X.blk s H scope (compEnvC scope cl C X.env) fp) tg g) (ht : ∀ (s : Shared) (H : Hp) (C : Addr) (cl : List (Str × Addr)) (fp : List Addr), PTs (X.blk s H scope (compEnvC scope cl C X.env) fp) ifs tt)
    (he : ∀ (s : Shared) (H : Hp) (C : Addr) (cl : List (Str × Addr)) (fp : List Addr), PE (X.blk s H scope (compEnvC scope cl C X.env) fp) elt te)
    (ok : blkC X.N X.env.scope scope own = true) (hsw : swapsWith (.ListComp elt [⟨tg, iter, ifs, 0⟩] scope pos) (some (.Name y py)) spos.line X.env = pure true)
    (hc : X.calm = true := by rfl) (hy : X.N[i]? = some y := by rfl) (hyl : X.env.scope.names.lookup y = some .local := by rfl) (hs : ∀ x, foldedSetIterable iter X.env x = pure x := by intro _; rfl) :
    PS X (.Assign [.Name y py] (.ListComp elt [⟨tg, iter, ifs, 0⟩] scope pos) spos) (tAsg (tLc wi g tt te (own.map (·.2))) (gName i)) := ps_setLc hc nd hy hyl hsw hi (blkOk_by ok) hg ht he hs
/-- [.. for ..] -/
theorem plc {elt tg iter : Expr} {ifs : List Expr} {scope : Scope} (own : List (Str × Nat)) {wi : TI} {g : TG} {tt : TT} (nd : X.N.Nodup) (hi : PI X tg iter wi)
    (hg : ∀ (s : Shared) (H : Hp) (C : Addr) (cl : List (Str × Addr)) (fp : List Addr), PG (X.blk s H scope (compEnvC scope cl C X.env) fp) tg g) (ht : ∀ (s : Shared) (H : Hp) (C : Addr) (cl : List (Str × Addr)) (fp : List Addr), PTs (X.blk s H scope (compEnvC scope cl C X.env) fp) ifs tt)
    (he : ∀ (s : Shared) (H : Hp) (C : Addr) (cl : List (Str × Addr)) (fp : List Addr), PE (X.blk s H scope (compEnvC scope cl C X.env) fp) elt te)
    (ok : blkC X.N X.env.scope scope own = true) (hc : X.calm = true := by rfl) (hs : ∀ x, foldedSetIterable iter X.env x = pure x := by intro _; rfl) :
    PE X (.ListComp elt [⟨tg, iter, ifs, 0⟩] scope pos) (tLc wi g tt te (own.map (·.2))) := pe_lc hc nd hi (blkOk_by ok) hg ht he hs
/-- f(..), f a def -/
theorem pcall {f : Addr} {x : Str} {fd : FuncData} {ps : List Str} {sp : Sp} {k : Nat} (G : FnOk X.prog X.w X.K X.mg X.base (L2.CX X.prog X.w) k f fd ps sp) (hr : Room k X.A) (D : Defn X.K X.mg x f fd ps) (ha : PA X (e :: es) t)
    (hg : Gl X x := by rfl) (hdb : (x == ("__debug__" : Str)) = false := by decide) (he : starEach (e :: es) X.env = (false, eval e X.env) :: starEach es X.env := by rfl) (hpl : (backTo pos (starEach es X.env)).any (·.1) = false := by rfl) :
    PE X (.Call (.Name x p) (e :: es) [] pos) (tCall sp [] E0 t) := pe_call G hr hg D.g D.k D.b .nil passL ha hdb he hpl
section
variable (ha : PA X (e :: es) t)
theorem bi_len (m : X.mg "len" = none) (ha : PA X (e :: es) t) (hg : Gl X "len" := by rfl) (he : starEach (e :: es) X.env = (false, eval e X.env) :: starEach es X.env := by rfl) (hpl : (backTo pos (starEach es X.env)).any (·.1) = false := by rfl) :
    PE X (.Call (.Name "len" p) (e :: es) [] pos) (tCB (rLen X.K) t) := pe_callB call_len hg m PySem.boot_len ha (by decide) (by decide) he hpl
theorem bi_isi (m : X.mg "isinstance" = none) (ha : PA X (e :: es) t) (hg : Gl X "isinstance" := by rfl) (he : starEach (e :: es) X.env = (false, eval e X.env) :: starEach es X.env := by rfl) (hpl : (backTo pos (starEach es X.env)).any (·.1) = false := by rfl) :
    PE X (.Call (.Name "isinstance" p) (e :: es) [] pos) (tCB (rIsi X.K) t) := pe_callB call_isi hg m PyProof.Rows.boot_isinstance ha (by decide) (by decide) he hpl
theorem bi_isi2 (m : X.mg "isinstance" = none) (ha : PA X (e :: es) t) (hg : Gl X "isinstance" := by rfl) (he : starEach (e :: es) X.env = (false, eval e X.env) :: starEach es X.env := by rfl) (hpl : (backTo pos (starEach es X.env)).any (·.1) = false := by rfl) :
    PE X (.Call (.Name "isinstance" p) (e :: es) [] pos) (tCB (rIsiT X.K) t) := pe_callB call_isiT hg m PyProof.Rows.boot_isinstance ha (by decide) (by decide) he hpl
theorem bi_sum (m : X.mg "sum" = none) (ha : PA X (e :: es) t) (hc : X.calm = true := by rfl) (hg : Gl X "sum" := by rfl) (he : starEach (e :: es) X.env = (false, eval e X.env) :: starEach es X.env := by rfl) (hpl : (backTo pos (starEach es X.env)).any (·.1) = false := by rfl) :
    PE X (.Call (.Name "sum" p) (e :: es) [] pos) (tCB (rSum X.K) t) := pe_callB (cr_sum hc) hg m PyProof.Rows.boot_sum ha (by decide) (by decide) he hpl
theorem bi_all (m : X.mg "all" = none) (ha : PA X (e :: es) t) (hc : X.calm = true := by rfl) (hg : Gl X "all" := by rfl) (he : starEach (e :: es) X.env = (false, eval e X.env) :: starEach es X.env := by rfl) (hpl : (backTo pos (starEach es X.env)).any (·.1) = false := by rfl) :
    PE X (.Call (.Name "all" p) (e :: es) [] pos) (tCB (rAll X.K) t) := pe_callB (cr_all hc) hg m PyProof.Rows.boot_all ha (by decide) (by decide) he hpl
theorem bi_max1 (m : X.mg "max" = none) (ha : PA X (e :: es) t) (hc : X.calm = true := by rfl) (hg : Gl X "max" := by rfl) (he : starEach (e :: es) X.env = (false, eval e X.env) :: starEach es X.env := by rfl) (hpl : (backTo pos (starEach es X.env)).any (·.1) = false := by rfl) :
    PE X (.Call (.Name "max" p) (e :: es) [] pos) (tCB (rMax X.K) t) := pe_callB (cr_max hc) hg m PyProof.Rows.boot_max ha (by decide) (by decide) he hpl
abbrev rMax2 : List V → Hp → VK → Prop := fun xs H Q => ∃ i j, xs = [.int i, .int j] ∧ Q (.int (if j > i then j else i)) H
abbrev rMin2 : List V → Hp → VK → Prop := fun xs H Q => ∃ i j, xs = [.int i, .int j] ∧ Q (.int (if j < i then j else i)) H
theorem bi_max2 (m : X.mg "max" = none) (ha : PA X (e :: es) t) (hc : X.calm = true := by rfl) (hg : Gl X "max" := by rfl) (he : starEach (e :: es) X.env = (false, eval e X.env) :: starEach es X.env := by rfl) (hpl : (backTo pos (starEach es X.env)).any (·.1) = false := by rfl) :
    PE X (.Call (.Name "max" p) (e :: es) [] pos) (tCB rMax2 t) := pe_callB (call_max2 hc) hg m PyProof.Rows.boot_max ha (by decide) (by decide) he hpl
theorem bi_min2 (m : X.mg "min" = none) (ha : PA X (e :: es) t) (hc : X.calm = true := by rfl) (hg : Gl X "min" := by rfl) (he : starEach (e :: es) X.env = (false, eval e X.env) :: starEach es X.env := by rfl) (hpl : (backTo pos (starEach es X.env)).any (·.1) = false := by rfl) :
    PE X (.Call (.Name "min" p) (e :: es) [] pos) (tCB rMin2 t) := pe_callB (call_min2 hc) hg m PyProof.Rows.boot_min ha (by decide) (by decide) he hpl
abbrev rAbs : List V → Hp → VK → Prop := fun xs H Q => ∃ i, xs = [.int i] ∧ Q (.int (if i < 0 then -i else i)) H
theorem bi_abs (m : X.mg "abs" = none) (ha : PA X (e :: es) t) (hg : Gl X "abs" := by rfl) (he : starEach (e :: es) X.env = (false, eval e X.env) :: starEach es X.env := by rfl) (hpl : (backTo pos (starEach es X.env)).any (·.1) = false := by rfl) :
    PE X (.Call (.Name "abs" p) (e :: es) [] pos) (tCB rAbs t) := pe_callB call_abs hg m PyProof.Rows.boot_abs ha (by decide) (by decide) he hpl
abbrev rInt : List V → Hp → VK → Prop := fun xs H Q => (∃ i, xs = [.int i] ∧ Q (.int i) H) ∨ ∃ k, xs = [.bl k] ∧ Q (.int (if k then 1 else 0)) H
theorem bi_int (m : X.mg "int" = none) (ha : PA X (e :: es) t) (hg : Gl X "int" := by rfl) (he : starEach (e :: es) X.env = (false, eval e X.env) :: starEach es X.env := by rfl) (hpl : (backTo pos (starEach es X.env)).any (·.1) = false := by rfl) :
    PE X (.Call (.Name "int" p) (e :: es) [] pos) (tCB rInt t) := pe_callTy call_int1 hg m PyProof.Rows.boot_int ha (by decide) (by decide) he hpl
theorem bi_tuple (m : X.mg "tuple" = none) (ha : PA X (e :: es) t) (hg : Gl X "tuple" := by rfl) (he : starEach (e :: es) X.env = (false, eval e X.env) :: starEach es X.env := by rfl) (hpl : (backTo pos (starEach es X.env)).any (·.1) = false := by rfl) :
    PE X (.Call (.Name "tuple" p) (e :: es) [] pos) (tCB (rTupOf X.K) t) := pe_callTy call_tuple_of hg m PyProof.Rows.boot_tuple ha (by decide) (by decide) he hpl
theorem bi_list (m : X.mg "list" = none) (ha : PA X (e :: es) t) (hg : Gl X "list" := by rfl) (he : starEach (e :: es) X.env = (false, eval e X.env) :: starEach es X.env := by rfl) (hpl : (backTo pos (starEach es X.env)).any (·.1) = false := by rfl) :
    PE X (.Call (.Name "list" p) (e :: es) [] pos) (tCB (rLstOf X.K) t) := pe_callTy call_list_of hg m PyProof.Rows.boot_list ha (by decide) (by decide) he hpl
end
/-- a built-in class as a value -/
theorem bt_int (m : X.mg "int" = none) (hg : Gl X "int" := by rfl) : PE X (.Name "int" pos) (tC (.ty "int")) := pe_bltn hg m PyProof.Rows.boot_int rfl (by decide) (by decide)
theorem bt_bool (m : X.mg "bool" = none) (hg : Gl X "bool" := by rfl) : PE X (.Name "bool" pos) (tC (.ty "bool")) := pe_bltn hg m PyProof.Rows.boot_bool rfl (by decide) (by decide)
theorem bt_str (m : X.mg "str" = none) (hg : Gl X "str" := by rfl) : PE X (.Name "str" pos) (tC (.ty "str")) := pe_bltn hg m PyProof.Rows.boot_str rfl (by decide) (by decide)
theorem bt_list (m : X.mg "list" = none) (hg : Gl X "list" := by rfl) : PE X (.Name "list" pos) (tC (.ty "list")) := pe_bltn hg m PyProof.Rows.boot_list rfl (by decide) (by decide)
theorem bt_tuple (m : X.mg "tuple" = none) (hg : Gl X "tuple" := by rfl) : PE X (.Name "tuple" pos) (tC (.ty "tuple")) := pe_bltn hg m PyProof.Rows.boot_tuple rfl (by decide) (by decide)
theorem bt_dict (m : X.mg "dict" = none) (hg : Gl X "dict" := by rfl) : PE X (.Name "dict" pos) (tC (.ty "dict")) := pe_bltn hg m PyProof.Rows.boot_dict rfl (by decide) (by decide)
/-- an int of the module -/
theorem pglob {x : Str} {n : Int} (hm : ∃ tk, X.mg x = some (.int n tk)) (hg : Gl X x := by rfl) (hd : (x == ("__debug__" : Str)) = false := by decide) : PE X (.Name x pos) (tC (.int n)) := by
  obtain ⟨tk, h⟩ := hm
  exact pe_glob hg h ⟨_, rfl⟩ hd
end
section
variable {W : Wd} {Γ : Gam} {K : PySem.W.Frag} {i j : Int} {b : Bool}
theorem cbt_abs : CbT W rAbs [dt K (.int i)] (dt K (.int (if i < 0 then -i else i))) := fun us H c hu Q q => by
  obtain ⟨v, rfl, h⟩ := hu.one
  cases h
  exact ⟨i, rfl, q _ H (Ex.refl _ _) (.int _)⟩
theorem cbt_max2 : CbT W rMax2 [dt K (.int i), dt K (.int j)] (dt K (.int (if j > i then j else i))) := fun us H c hu Q q => by
  obtain ⟨v, w, rfl, h, k⟩ := hu.two
  cases h
  cases k
  exact ⟨i, j, rfl, q _ H (Ex.refl _ _) (.int _)⟩
theorem cbt_min2 : CbT W rMin2 [dt K (.int i), dt K (.int j)] (dt K (.int (if j < i then j else i))) := fun us H c hu Q q => by
  obtain ⟨v, w, rfl, h, k⟩ := hu.two
  cases h
  cases k
  exact ⟨i, j, rfl, q _ H (Ex.refl _ _) (.int _)⟩
theorem cbt_intI : CbT W rInt [dt K (.int i)] (dt K (.int i)) := fun us H c hu Q q => by
  obtain ⟨v, rfl, h⟩ := hu.one
  cases h
  exact .inl ⟨i, rfl, q _ H (Ex.refl _ _) (.int _)⟩
theorem cbt_intB : CbT W rInt [dt K (.bool b)] (dt K (.int (if b then 1 else 0))) := fun us H c hu Q q => by
  obtain ⟨v, rfl, h⟩ := hu.one
  cases h
  exact .inr ⟨b, rfl, q _ H (Ex.refl _ _) (.int _)⟩
end
end Ew

end
section
set_option Elab.async false
set_option linter.all false
set_option maxRecDepth 100000
set_option maxHeartbeats 1000000
/-! EwE: comprehensions over lists of anything; more operators. -/
namespace Ew
open PySem PySem.Spec PyProof.Rows L2
section
variable {W : Wd} {Γ Γ' : Gam} {K : PySem.W.Frag} {T U A C P : Typ} {Ts Us : List Typ} {ds es : List PyData} {d : PyData} {ta : TA} {te tb : TE} {g : TG} {gs : TGs} {vs : List Nat} {α : Type} {xs : List α} {j : Nat} {wi : TI} {tt : TT}
theorem ty_andF (h1 : Ty W Γ te (dt K (.bool false))) : Ty W Γ (tAndV te tb) (dt K (.bool false)) := (ty_andV (b := false) h1 fun z => Bool.noConfusion z).is rfl
theorem ty_orTr (h1 : Ty W Γ te (dt K (.bool true))) : Ty W Γ (tOrV te tb) (dt K (.bool true)) := (ty_orV (b := true) h1 fun z => Bool.noConfusion z).is rfl
theorem tt_andF {tu : TT} (h1 : Tt W Γ tt (· = false)) : Tt W Γ (tAnd tt tu) (· = false) := (tt_andB (b := false) h1 fun z => Bool.noConfusion z).is rfl
theorem tt_orTr {tu : TT} (h1 : Tt W Γ tt (· = true)) : Tt W Γ (tOr tt tu) (· = true) := (tt_orB (b := true) h1 fun z => Bool.noConfusion z).is rfl
theorem range_map_getD (F : α → Typ) (y : α) : (List.range xs.length).map (fun i => F (xs.getD i y)) = xs.map F := by
  apply List.ext_getElem
  · simp
  · intro i h1 h2
    have hi : i < xs.length := by simpa using h2
    simp [List.getD_eq_getElem?_getD, List.getElem?_eq_getElem hi]
/-- a comprehension over what comes from xs -/
theorem tyl_mapT (A F : α → Typ) (hi : TyI W Γ wi (xs.map A)) (hz : xs.length ≤ 1000000) (gk : GOk g vs)
    (hs : ∀ (W' : Wd) x, x ∈ xs → ∃ Γi, TyG W' (wipeG Γ vs) g (A x) Γi ∧ Ty W' Γi te (F x)) : TyL W Γ (tLc wi g tYes te vs) (xs.map F) := by
  cases xs with
  | nil =>
    have h := tyl_lc1 (te := te) (fun _ => isV .non) hi (by simpa using hz) gk fun W' i T hT => by simp at hT
    simpa using h
  | cons y ys =>
    have h := tyl_lc1 (te := te) (fun i => F ((y :: ys).getD i y)) hi (by simpa using hz) gk fun W' i T hT => by
      rw [List.getElem?_map] at hT
      cases e : (y :: ys)[i]? with
      | none => rw [e] at hT; cases hT
      | some x =>
        rw [e] at hT
        cases hT
        obtain ⟨Γi, h1, h2⟩ := hs W' x (List.mem_of_getElem? e)
        refine ⟨Γi, h1, ?_⟩
        rw [List.getD_eq_getElem?_getD, e]
        exact h2
    rw [List.length_map, range_map_getD F y] at h
    exact h
/-- .. its items in the slot j -/
theorem tyl_map (A F : α → Typ) (hi : TyI W Γ wi (xs.map A)) (hz : xs.length ≤ 1000000) (hj : j ∈ vs) (hs : ∀ (W' : Wd) x, x ∈ xs → Ty W' ((wipeG Γ vs).set j (some (A x))) te (F x)) :
    TyL W Γ (tLc wi (gName j) tYes te vs) (xs.map F) := tyl_mapT A F hi hz (gok_name j hj) fun W' x hx => ⟨_, tyg_name j, hs W' x hx⟩
theorem filter_range_getD (F : α → Typ) (p : α → Bool) (y : α) : ((List.range xs.length).filter fun i => p (xs.getD i y)).map (fun i => F (xs.getD i y)) = (xs.filter p).map F := by
  have key : ∀ (l : List α), (∀ n, (List.range n).filterMap (fun i => if p (l.getD i y) = true then some (F (l.getD i y)) else none) = ((l ++ List.replicate (n - l.length) y).take n).filterMap fun x => if p x = true then some (F x) else none) := by
    intro l n
    have e : (List.range n).map (fun i => l.getD i y) = (l ++ List.replicate (n - l.length) y).take n := by
      apply List.ext_getElem
      · simp; omega
      · intro i h1 h2
        have hi : i < n := by simpa using h1
        simp only [List.getElem_map, List.getElem_range, List.getElem_take, List.getD_eq_getElem?_getD]
        by_cases hl : i < l.length
        · rw [List.getElem?_eq_getElem hl, List.getElem_append_left hl]; rfl
        · rw [List.getElem?_eq_none (by omega), List.getElem_append_right (by omega), List.getElem_replicate]; rfl
    rw [← e, List.filterMap_map]
    rfl
  have h := key xs xs.length
  rw [Nat.sub_self, List.replicate_zero, List.append_nil, List.take_length] at h
  have f1 : ∀ (l : List Nat), (l.filter fun i => p (xs.getD i y)).map (fun i => F (xs.getD i y)) = l.filterMap (fun i => if p (xs.getD i y) = true then some (F (xs.getD i y)) else none) := by
    intro l
    induction l with
    | nil => rfl
    | cons a l ih =>
      rw [List.filter_cons, List.filterMap_cons]
      by_cases c : p (xs.getD a y) = true
      · rw [if_pos c, if_pos c, List.map_cons, ih]
      · rw [if_neg c, if_neg c, ih]
  have f2 : ∀ (l : List α), (l.filter p).map F = l.filterMap (fun x => if p x = true then some (F x) else none) := by
    intro l
    induction l with
    | nil => rfl
    | cons a l ih =>
      rw [List.filter_cons, List.filterMap_cons]
      by_cases c : p a = true
      · rw [if_pos c, if_pos c, List.map_cons, ih]
      · rw [if_neg c, if_neg c, ih]
  rw [f1, f2, h]
/-- .. with a test -/
theorem tyl_filterT (A F : α → Typ) (p : α → Bool) (hi : TyI W Γ wi (xs.map A)) (hz : xs.length ≤ 1000000) (gk : GOk g vs)
    (hs : ∀ (W' : Wd) x, x ∈ xs → ∃ Γi, TyG W' (wipeG Γ vs) g (A x) Γi ∧ Tt W' Γi tt (· = p x) ∧ (p x = true → Ty W' Γi te (F x))) : TyL W Γ (tLc wi g tt te vs) ((xs.filter p).map F) := by
  cases xs with
  | nil =>
    have h := tyl_lc (te := te) (tt := tt) (fun _ => true) (fun _ => isV .non) hi (by simpa using hz) gk fun W' i T hT => by simp at hT
    simpa using h
  | cons y ys =>
    have h := tyl_lc (te := te) (tt := tt) (fun i => p ((y :: ys).getD i y)) (fun i => F ((y :: ys).getD i y)) hi (by simpa using hz) gk fun W' i T hT => by
      rw [List.getElem?_map] at hT
      cases e : (y :: ys)[i]? with
      | none => rw [e] at hT; cases hT
      | some x =>
        rw [e] at hT
        cases hT
        obtain ⟨Γi, h1, h2, h3⟩ := hs W' x (List.mem_of_getElem? e)
        refine ⟨Γi, h1, ?_, fun z => ?_⟩
        · rw [List.getD_eq_getElem?_getD, e]
          exact h2
        · rw [List.getD_eq_getElem?_getD, e] at z ⊢
          exact h3 z
    rw [List.length_map, filter_range_getD F p y] at h
    exact h
theorem tyl_filter (A F : α → Typ) (p : α → Bool) (hi : TyI W Γ wi (xs.map A)) (hz : xs.length ≤ 1000000) (hj : j ∈ vs)
    (hs : ∀ (W' : Wd) x, x ∈ xs → Tt W' ((wipeG Γ vs).set j (some (A x))) tt (· = p x) ∧ (p x = true → Ty W' ((wipeG Γ vs).set j (some (A x))) te (F x))) : TyL W Γ (tLc wi (gName j) tt te vs) ((xs.filter p).map F) :=
  tyl_filterT A F p hi hz (gok_name j hj) fun W' x hx => ⟨_, tyg_name j, hs W' x hx⟩
theorem ty_sumG {f : α → Int} (h : TyL W Γ te (xs.map fun x => dt K (.int (f x)))) : Ty W Γ (tCB (rSum K) (tCons te tNil)) (dt K (.int (xs.map f).sum)) := ty_sumOf (ns := xs.map f) (by rw [List.map_map]; exact h)
theorem ty_allG {p : α → Bool} (h : TyL W Γ te (xs.map fun x => dt K (.bool (p x)))) : Ty W Γ (tCB (rAll K) (tCons te tNil)) (dt K (.bool (xs.all p))) := (ty_allOf (bs := xs.map p) (by rw [List.map_map]; exact h)).is (by rw [List.all_map]; rfl)
theorem ty_tupG {f : α → PyData} (h : TyL W Γ te (xs.map fun x => dt K (f x))) : Ty W Γ (tCB (rTupOf K) (tCons te tNil)) (dt K (.tuple (xs.map f))) := (ty_tupOf (K := K) h).sub fun v H _ z => tupT_data (by rw [List.map_map]; exact z)
theorem ty_lstG {f : α → PyData} (h : TyL W Γ te (xs.map fun x => dt K (f x))) : Ty W Γ te (dt K (.list (xs.map f))) := h.ty.sub fun v H _ z => lstT_data (K := K) (by rw [List.map_map]; exact z)
/-- data one by one -/
theorem tyi_tupA {f : α → PyData} (h : Ty W Γ te (dt K (.tuple (xs.map f)))) : TyI W Γ (iTup K te) (xs.map fun x => dt K (f x)) := by
  have z := tyi_tupD h
  rw [List.map_map] at z
  exact z
theorem tyi_lstA {f : α → PyData} (h : Ty W Γ te (dt K (.list (xs.map f)))) : TyI W Γ (iList K te) (xs.map fun x => dt K (f x)) := by
  have z := tyi_lstD h
  rw [List.map_map] at z
  exact z
/-- zip of two tuples of data, of one length -/
theorem tyi_zipA {β γ : Type} {as : List β} {bs : List γ} {f : β → PyData} {h : γ → PyData} {tb : TE} (ha : Ty W Γ te (dt K (.tuple (as.map f)))) (hb : Ty W Γ tb (dt K (.tuple (bs.map h)))) :
    TyI W Γ (RZ.iZipA K (tCons te (tCons tb tNil))) ((as.zip bs).map fun p => tupT K [dt K (f p.1), dt K (h p.2)]) := by
  have z := tyi_zipT (W := W) (Γ := Γ) (K := K) (Ts := (as.map f).map (dt K)) (Us := (bs.map h).map (dt K)) (tya_cons (ha.sub fun _ _ _ => data_tupT) (tya_cons (hb.sub fun _ _ _ => data_tupT) tya_nil))
  have e : ((((as.map f).map (dt K)).zip ((bs.map h).map (dt K))).map fun p => tupT K [p.1, p.2]) = ((as.zip bs).map fun p => tupT K [dt K (f p.1), dt K (h p.2)]) := by
    rw [List.map_map, List.map_map, List.zip_map, List.map_map]
    rfl
  rw [e] at z
  exact z
/-- for a, b in ..: two slots -/
theorem tyg_pair {i k : Nat} : TyG W Γ (gTup K 2 (gCons (gName i) (gCons (gName k) gNil))) (tupT K [A, C]) ((Γ.set i (some A)).set k (some C)) := tyg_tup (tygs_cons (tyg_name i) (tygs_cons (tyg_name k) tygs_nil))
theorem gok_pair {i k : Nat} (hi : i ∈ vs) (hk : k ∈ vs) : GOk (gTup K 2 (gCons (gName i) (gCons (gName k) gNil))) vs := gok_tup (gok_cons (gok_name i hi) (gok_cons (gok_name k hk) gok_nil))
/-- range(n) -/
theorem tyi_rng {n : Nat} (h : TyA W Γ ta [dt K (.int (n : Nat))]) (hn : n ≤ 1000000000) : TyI W Γ (iRng1 ta) ((List.range n).map fun i => dt K (.int (i : Nat))) := by
  have z := tyi_rng1 h (by omega) (by omega)
  rw [Int.toNat_natCast] at z
  exact z
end
end Ew

end
section
set_option Elab.async false
set_option linter.all false
set_option maxRecDepth 100000
set_option maxHeartbeats 2000000
/-! EwX: an own exception class over a class whose __init__ says super().__init__(given); self.given = given. -/
namespace PySem
namespace WrX
open PySem.W PySem.Calls PyProof.Rows PySem.HandSPX
/-! ### the text of __init__ -/
def iA (p1 p2 p3 : Pos) : Arguments := { posonlyargs := [], args := [{ arg := "self", annotation := none, pos := p1 }, { arg := "given", annotation := none, pos := p2 }], vararg := none, kwonlyargs := [], kw_defaults := [], kwarg := none, defaults := [.Constant .none 0 p3] }
def iB (q1 q2 q3 q4 q5 q6 q7 q8 q9 q10 : Pos) : List Stmt := [.Expr (.Call (.Attribute (.Call (.Name "super" q1) [] [] q2) "__init__" q3) [.Name "given" q4] [] q5) q6, .Assign [.Attribute (.Name "self" q7) "given" q8] (.Name "given" q9) q10]
def iS : Scope := { kind := .function, names := [(PySem.Str.ofString "self", .local), (PySem.Str.ofString "given", .local), (PySem.Str.ofString "__class__", .free), (PySem.Str.ofString "super", .globalImplicit)], isGenerator := false, isCoroutine := false, more := [] }
abbrev veTail : List Value := [.type "ValueError", .type "Exception", .type "BaseException", .type "object"]
/-- what the written part says of the class D of the text, its __init__ at fI -/
structure BaseTxt (prog : Program) (K : Frag) (mg : Str → Option Value) (D fI : Addr) : Prop where
  fn : ∃ (oc : Value) (od : Option Addr) (Td : Addr) (kV doc pm : Value) (an : Option Addr) (cda cc : Addr) (ct : Value) (osl : Array (Option Value)) (p1 p2 p3 q1 q2 q3 q4 q5 q6 q7 q8 q9 q10 : Pos) (ccl cl : Value) (cdd cld : Option Addr) (vs : Array Value) (ccs csl : Array (Option Value)) (file : Str) (tf : Tok) (tc : Value) (td : Option Addr) (nT : Nat) (tsl : Array (Option Value)),
    K.lookup fI = some ⟨oc, od, .func (ksFn "__init__" "WrapError.__init__" (iA p1 p2 p3) (iB q1 q2 q3 q4 q5 q6 q7 q8 q9 q10) iS (.ref Td) kV doc pm an (.ref cda) ct cc), osl⟩ ∧ codeIn K (.ref cda) "WrapError.__init__" = true ∧
    K.lookup cda = some ⟨ccl, cdd, .fields vs, ccs⟩ ∧ vs[2]? = some (.str file tf) ∧ ((prog.main.file : Str) == file) = true ∧ K.lookup cc = some ⟨cl, cld, .cell (some (.ref D)), csl⟩ ∧ K.lookup Td = some ⟨tc, td, .seq #[.none] nT, tsl⟩ ∧ (q3.endLine == q5.line) = true
  cD : ∃ cdD, clsIn K D = some cdD
  mS : mg "super" = none
  top : (prog.main.scope.names.lookup ("super" : Str)).isSome = false
  any : nsIn K cStatics "thirdparty.any" = some none
/-- .. of a class C over it, without an __init__ of its own -/
structure ClsTxt (K : Frag) (mg : Str → Option Value) (nm : Str) (D fI C : Addr) : Prop where
  gC : mg nm = some (.ref C)
  cls : ∃ nm q N bs sn sub ab col dd k0 k1 k2 k3 k5, K.lookup C = some (excClassObj nm q C N bs (.ref D :: veTail) true sn sub ab col dd k0 k1 k2 k3 k5 "ValueError.__new__")
  sa : findIn K (.ref C) "__setattr__" = some (some (.builtin "object.__setattr__"))
  noN : findIn K (.ref C) "given" = some none
  iC : findIn K (.ref C) "__init__" = some (some (.ref fI))
  tI : typeIn K (.ref fI) = some (.type "function")
  kC : keepIn K (.ref C) = true
  exC : subIn K (.ref C) (.type "BaseException") = some true
  veC : subIn K (.ref C) (.type "ValueError") = some true
  tyC : typeIn K (.ref C) = some (.type "type")
  ne : C ≠ D
theorem one_size (v : Value) : [v].length ≤ sizeLine := by
  rw [sizeLine_eq]
  exact (by decide : 1 ≤ 16777216)
theorem refs (D : Addr) : refsVE (.ref D :: veTail) = true := by
  show refsVE veTail = true
  decide +kernel
theorem refs_two (C D : Addr) : refsVE (.ref C :: .ref D :: veTail) = true := by
  show refsVE veTail = true
  decide +kernel
theorem mro_has {K : Frag} {C D : Addr} {cd : ClassData} (hcd : clsIn K C = some cd) (hm : cd.mro = .ref C :: .ref D :: veTail) : mroIn K C (.ref D) = some true := by
  unfold mroIn
  rw [hcd, Option.bind_some, hm, if_neg (show ¬ (List.isEmpty (Value.ref C :: Value.ref D :: veTail) = true) from Bool.false_ne_true)]
  simp
theorem drop_to {C D : Addr} (h : C ≠ D) (l : List Value) : ((Value.ref C :: Value.ref D :: l).dropWhile (· != .ref D)).drop 1 = l := by
  have e : (Value.ref C != Value.ref D) = true := by simp [h]
  rw [List.dropWhile_cons, if_pos e, List.dropWhile_cons, if_neg (by simp)]
  rfl
theorem along_ve (K : Frag) : alongIn K "__init__" veTail = some (some (.builtin "ValueError.__init__")) := by kernel_rfl
section
variable {prog : Program} {w : World} {A : Around} {E : Value → Shared → Prop} {R : Result → Shared → Prop} {s : Shared} {K : Frag} {mg mb : Str → Option Value} {C D fI fJ : Addr}
/-- the bound ValueError.__init__ is called -/
theorem call_mw {h : Heap} {g : Array GenState} {d : Drawn} {t : Nat} {os : OsState} {nm q : Str} {N : Addr} {bs bm : List Value} {hdct : Bool} {sn : List Str} {sub : List Value} {ab : Bool} {col : Option Bool} {dd : Option Addr} {k0 k1 k2 k3 k5 : Option Value} {u e t0 : Addr} {rest : List Value} {Q : Value → Shared → Prop}
    (hC : h.get? C = some (excClassObj nm q C N bs bm hdct sn sub ab col dd k0 k1 k2 k3 k5 "ValueError.__new__")) (he : h.get? e = some (excO C t0)) (hu : h.get? u = some (kxs_mw "ValueError.__init__" e)) (hrest : rest.length ≤ sizeLine)
    (hq : ∀ h' t1, (∀ b o, b ≠ e → h.get? b = some o → h'.get? b = some o) → h'.get? e = some (excO C t1) → Q .none ⟨h', g, d, t, os⟩) :
    wpAny (model prog w) A (call (.ref u) rest) Q E ⟨h, g, d, t, os⟩ := by
  refine wpAny_call (codeAny_of_tree ?_)
  show wpAny _ A.in1 (callAny (.ref u) ⟨rest, []⟩) _ _ _
  simp only [callAny]
  refine wpAny_bind (wpAny_load hu ?_)
  simp only [kxs_mw, show (Value.type "method-wrapper" == Value.type "method" || Value.type "method-wrapper" == Value.type "builtin_function_or_method" || Value.type "method-wrapper" == Value.type "method-wrapper") = true by decide, if_true]
  refine KFB.if_so (by decide) ?_
  refine wpAny_bind (check_bound_init F.excBase_ValueError.toExcCallFacts hC he rfl ?_)
  refine wpAny_bind (wpAny_pure (wpAny_pure ?_))
  refine ⟨plainId_quiet F.excBase_ValueError.init.plain _, codeAny_builtin F.excBase_ValueError.initEntry ?_⟩
  rw [Around.under_plainId F.excBase_ValueError.init.plain _]
  exact exc_init_tree (cls := .ref C) (t0 := t0) (dv := none) (c2 := .none) (c3 := .none) (b4 := .bool false) he hrest fun h' k hx _ => hq h' _ k hx
theorem callWith_mw {pos : Pos} {u x : Addr} {env : Env} {e : Expr} {rest : List Expr} {Q : Value → Shared → Prop}
    (h : wpAny (model prog w) A (spliced (backTo pos (starEach (e :: rest) env))) (fun vs s₁ => KxsAt "ValueError.__init__" u x s₁.heap ∧ wpAny (model prog w) A (call (.ref u) vs) Q E s₁) E s)
    (he : starEach (e :: rest) env = (false, eval e env) :: starEach rest env := by rfl) (hplain : (backTo pos (starEach rest env)).any (·.1) = false := by rfl) :
    wpAny (model prog w) A (callWith pos (.ref u) [] (backTo pos (starEach (e :: rest) env)) []) Q E s := by
  rw [he] at h ⊢
  refine kxs_callWith (i := "ValueError.__init__") (x := x) (by show (false || (backTo pos (starEach rest env)).any (·.1)) = false; rw [hplain]; rfl) ?_
  exact evalArgs_plain h
/-- what __init__ leaves of a fresh exception at x -/
structure InitEnd (h h' : Heap) (x C dx t1 : Addr) (v : Value) : Prop where
  keep : ∀ b o, b ≠ x → h.get? b = some o → h'.get? b = some o
  obj : h'.get? x = some { cls := .ref C, dict := some dx, data := .fields #[.ref t1, .none, .none, .none, .bool false, .none] }
  dbig : h.objs.size ≤ dx
  dne : dx ≠ x
  ns : h'.Ns1 dx (fun y => if y = "given" then some v else none)
/-- a made one -/
structure OwnMade (h h' : Heap) (e C d : Addr) (v : Value) : Prop where
  keep : ∀ b o, h.get? b = some o → h'.get? b = some o
  new : h.objs.size ≤ e
  obj : ∃ oe vs, h'.get? e = some oe ∧ oe.cls = .ref C ∧ oe.dict = some d ∧ oe.data = .fields vs ∧ vs[1]? = some .none
  dbig : h.objs.size ≤ d
  dne : d ≠ e
  ns : h'.Ns1 d (fun y => if y = "given" then some v else none)
theorem boot_super : bootBuiltins "super" = some (.type "super") := by first | rfl | kernel_rfl
theorem ksLd {M : Model} {name : Str} {scope : Scope} {L a cc : Addr} {cd : Value} {m : Str → Option Value} {x : Str} {pos : Pos} {v : Value} {Q : Value → Shared → Prop} (hn : s.heap.Ns L m) (hv : m x = some v) (h : Q v s)
    (hk : scope.kind = .function := by rfl) (hl : (ksEnv name scope L a cd cc).kindOf x = some .local := by rfl) (hd : (x == ("__debug__" : Str)) = false := by decide) :
    wpAny M A (eval (.Name x pos) (ksEnv name scope L a cd cc)) Q E s := wpAny_Name (wpAny_loadName_local hk hl hn hv h) hd
theorem kept_but {h h' : Heap} {x : Addr} (X : K.In h) (hx : K.lookup x = none) (k : ∀ b o, b ≠ x → h.get? b = some o → h'.get? b = some o) : K.In h' := fun a o e =>
  k a o (fun z => by rw [z, hx] at e; cases e) (X a o e)
theorem he_line {o : Expr} {name : Str} {apos pos p4 : Pos} {x : Str} {env : Env} (hl : (apos.endLine == pos.line) = true) :
    eval (.Call (.Attribute o name apos) [.Name x p4] [] pos) env = (do
      let ov ← attributeBase o name env (eval o env)
      standAt apos.atName
      let (f, first) ← holding [ov] (getMethod ov name (L2.plainOf o env))
      callWith pos f first (backTo pos (starEach [.Name x p4] env)) []) := by
  have e : eval (.Call (.Attribute o name apos) [.Name x p4] [] pos) env = (do
    let ov ← attributeBase o name env (eval o env)
    standAt apos.atName
    methodCall o name apos pos env ov (List.length [Expr.Name x p4] + List.length ([] : List Keyword)) (backTo pos (starEach [.Name x p4] env)) (backToKw pos (keywordEach [] env))) := rfl
  rw [e]
  congr 1
  funext ov
  congr 1
  funext u
  exact L2.mcall_line rfl hl
theorem we_init {nm : Str} (Bt : BaseTxt prog K mg D fI) (T : ClsTxt K mg nm D fJ C) {x t0 : Addr} {v : Value} (X : K.In s.heap) (hlim : s.heap.NoLimit) (G : s.heap.Ns mainGlobals mg) (GB : ∃ mb, s.heap.Ns builtinsNs mb ∧ ∀ x : Str, x ≠ "__name__" → mb x = bootBuiltins x)
    (hx : s.heap.get? x = some (excO C t0)) (hnx : K.lookup x = none) (hroom : A.depth < recursionLimit)
    (hq : ∀ h' tk dx t1, InitEnd s.heap h' x C dx t1 v → R (.ok (.ret .none)) { s with heap := h', toks := tk }) :
    codeAny (model prog w) A (.call (.ref fI) ⟨[.ref x, v], []⟩) R s := by
  obtain ⟨oc, od, Td, kV, doc, pm, an, cda, cc, ct, osl, p1, p2, p3, q1, q2, q3, q4, q5, q6, q7, q8, q9, q10, ccl, cl, cdd, cld, vs, ccs, csl, file, tf, tc, td, nT, tsl, ho, hcd, hcode, hvs, hfile, hcell, hT, hline⟩ := Bt.fn
  obtain ⟨nm', q, N, bs, sn, sub, ab, col, dd, k0, k1, k2, k3, k5, hC⟩ := T.cls
  have hcl : clsIn K C = some { name := nm', bases := bs, mro := .ref C :: .ref D :: veTail, ns := N, qualname := q, hasDict := true, slotNames := sn, subclasses := sub, abstract := ab, collection := col, hasDel := false } := by unfold clsIn; rw [hC] <;> rfl
  obtain ⟨cdD, hD⟩ := Bt.cD
  obtain ⟨mb, hbn, hbm⟩ := GB
  obtain ⟨hp, g, d, t, os⟩ := s
  have hxC : x ≠ C := fun z => by rw [z, hC] at hnx; cases hnx
  refine ks_codeAny_call_defAt (fd := ksFn "__init__" "WrapError.__init__" (iA p1 p2 p3) (iB q1 q2 q3 q4 q5 q6 q7 q8 q9 q10) iS (.ref Td) kV doc pm an (.ref cda) ct cc) (body := iB q1 q2 q3 q4 q5 q6 q7 q8 q9 q10) (binds := [("self", .ref x), ("given", v)])
    hroom (X _ _ ho) rfl hlim (codeRec_of X hcd) rfl (L2.BindsTo.of_looks fun M => ?bind) ?cell ?loc (fun h₁ hns₁ k₁ => ?_) rfl rfl rfl
  case bind =>
    refine L2.looks_items (α := List (Str × Value)) X hT rfl (Looks.of_pure ?_)
    rfl
  case cell =>
    intro y hy
    rcases List.mem_cons.mp hy with rfl | hy
    · exact fun z => by cases z
    rcases List.mem_cons.mp hy with rfl | hy
    · exact fun z => by cases z
    rcases List.mem_cons.mp hy with rfl | hy
    · exact fun z => by cases z
    rcases List.mem_cons.mp hy with rfl | hy
    · exact fun z => by cases z
    cases hy
  case loc =>
    intro y hy
    rcases List.mem_cons.mp hy with rfl | hy
    · rfl
    rcases List.mem_cons.mp hy with rfl | hy
    · rfl
    cases hy
  have X₁ : K.In h₁ := X.keeps k₁
  have hx₁ := k₁ _ _ hx
  have hxL : hp.objs.size ≠ x := Nat.ne_of_gt (Heap.lt_size hx)
  obtain ⟨oD, hD1, hD2⟩ : ∃ oD, h₁.get? D = some oD ∧ oD.data = .cls cdD := by
    unfold clsIn at hD
    split at hD
    · rename_i c d cd' sl ho
      cases hD
      exact ⟨_, X₁ _ _ ho, rfl⟩
    · cases hD
  show _root_.PySem.wpAt (model prog w) _ (.func (iB q1 q2 q3 q4 q5 q6 q7 q8 q9 q10) (ksEnv "WrapError.__init__" iS hp.objs.size fI (.ref cda) cc)) (execs (iB q1 q2 q3 q4 q5 q6 q7 q8 q9 q10) (ksEnv "WrapError.__init__" iS hp.objs.size fI (.ref cda) cc)) _ _ _
  refine ks_wpAt_execs_cons ?_
  refine ks_wpAt_Expr_any ?_
  refine ks_wpAt_MethodCall (pl := L2.plainOf (.Call (.Name "super" q1) [] [] q2) (ksEnv "WrapError.__init__" iS hp.objs.size fI (.ref cda) cc)) ?_ (he_line hline)
  refine (ks_wpAt_super_base (env := ksEnv "WrapError.__init__" iS hp.objs.size fI (.ref cda) cc) rfl rfl (by decide) rfl (X₁ _ _ ho) rfl rfl rfl (X₁ _ _ hcode) rfl hvs hfile Bt.top ?_)
  refine ks_loadName_global rfl rfl (loadGlobal_builtin (env := ksEnv "WrapError.__init__" iS hp.objs.size fI (.ref cda) cc) (G.keeps k₁) Bt.mS (hbn.keeps k₁) ((hbm _ (by decide)).trans boot_super) ⟨rfl, ?_⟩)
  refine wpAny_loadName_free rfl rfl rfl ⟨_, X₁ _ _ hcell, rfl⟩ ?_
  refine wpAny_loadName_local (v := .ref x) rfl rfl hns₁ rfl ?_
  refine ks_wpAny_isType_cls hD1 hD2 ⟨rfl, ?_⟩
  refine ks_wpAny_call_super hD1 hD2 hx₁ rfl (fun c e => by cases e) (looks_mroIn X₁ (mro_has hcl rfl)) (fun h₂ hso k₂ => ?_)
  have X₂ : K.In h₂ := X₁.keeps k₂
  have hx₂ := k₂ _ _ hx₁
  have I₂ : InstAt h₂ x (excO C t0) C none := ⟨hx₂, rfl, rfl, trivial⟩
  refine kxs_getMethod kxs_ValueError hso (looks_opaque X₂ Bt.any) (l₀ := .ref C :: .ref D :: veTail) (fun A Q E s k q => wpAny_bind ((looks_clsIn X₂ hcl) A _ E s k (wpAny_pure q))) (drop_to T.ne _) X₂ (along_ve K) (I₂.type.andThen (looks_subIn X₂ T.veC)) hxC (by decide) ?_
  have k₃ : ∀ b o, h₂.get? b = some o → (h₂.push (kxs_mw "ValueError.__init__" x)).get? b = some o := fun b o e => Heap.get?_push_of_some _ e
  have hu : (h₂.push (kxs_mw "ValueError.__init__" x)).get? h₂.objs.size = some (kxs_mw "ValueError.__init__" x) := Heap.get?_push_at rfl rfl
  have hns₃ := (hns₁.keeps k₂).keeps k₃
  refine callWith_mw (u := h₂.objs.size) (x := x) ?_
  refine spliced_more ?_
  refine ksLd (v := v) hns₃ rfl ?_
  refine spliced_none ⟨hu, ?_⟩
  have k03 : ∀ b o, hp.get? b = some o → (h₂.push (kxs_mw "ValueError.__init__" x)).get? b = some o := fun b o e => k₃ b o (k₂ b o (k₁ b o e))
  refine call_mw (e := x) (k03 _ _ (X _ _ hC)) (k03 _ _ hx) hu (one_size v) (fun h₄ t1 k₄ hx₄ => ?_)
  have k04 : ∀ b o, b ≠ x → hp.get? b = some o → h₄.get? b = some o := fun b o hb e => k₄ b o hb (k03 b o e)
  have X₄ : K.In h₄ := kept_but X hnx k04
  have hns₄ : h₄.Ns hp.objs.size (fun y => List.lookup y [(PySem.Str.ofString "self", Value.ref x), (PySem.Str.ofString "given", v)].reverse) := by
    obtain ⟨oL, es, ep, hL, r⟩ := hns₃
    exact ⟨oL, es, ep, k₄ _ _ hxL hL, r⟩
  -- self.given = given
  refine ks_wpAt_execs_cons (_root_.PySem.wpAt_of_wpAny (plainObj_wpAny_Assign_Attribute ?_))
  refine ksLd (v := v) hns₄ rfl (ksLd (v := .ref x) hns₄ rfl ?_)
  refine set_plain X₄ (ox := excO C t1) (od := none) ⟨hx₄, rfl, rfl, trivial⟩ T.sa ?_
  refine exc_osa X₄ hx₄ hcl (refs_two C D) rfl T.noN (fun h₅ tk₅ dx k₅ dn dne hx₅ hn₅ => ?_)
  refine _root_.PySem.wpAt_of_wpAny (wpAny_execs_nil (hq h₅ tk₅ dx t1 ⟨fun b o hb e => k₅ b o hb (k04 b o hb e), hx₅, Nat.le_trans ?_ dn, dne, hn₅⟩))
  obtain ⟨oL, es, ep, hL, r⟩ := hns₄
  exact Nat.le_of_lt (Heap.lt_size hL)
theorem we_made {nm : Str} (Bt : BaseTxt prog K mg D fI) (T : ClsTxt K mg nm D fI C) {v : Value} (X : K.In s.heap) (hlim : s.heap.NoLimit) (G : s.heap.Ns mainGlobals mg) (GB : ∃ mb, s.heap.Ns builtinsNs mb ∧ ∀ x : Str, x ≠ "__name__" → mb x = bootBuiltins x) (hroom : A.depth + 1 < recursionLimit)
    (hq : ∀ h' tk e d, OwnMade s.heap h' e C d v → R (.ok (.ret (.ref e))) { s with heap := h', toks := tk }) :
    codeAny (model prog w) A (.call (.ref C) ⟨[v], []⟩) R s := by
  obtain ⟨nm', q, N, bs, sn, sub, ab, col, dd, k0, k1, k2, k3, k5, hC⟩ := T.cls
  obtain ⟨hp, g, dr, tk, os⟩ := s
  have k : ∀ b o, hp.get? b = some o → ((hp.push (kdv_tup [v])).push (excO C hp.objs.size)).get? b = some o := fun b o e => Heap.get?_push_of_some _ (Heap.get?_push_of_some _ e)
  have hget : ((hp.push (kdv_tup [v])).push (excO C hp.objs.size)).get? (hp.objs.size + 1) = some (excO C hp.objs.size) := by heap_get
  have hnx : K.lookup (hp.objs.size + 1) = none := by
    cases e : K.lookup (hp.objs.size + 1) with
    | none => rfl
    | some o =>
      have z : hp.get? (hp.objs.size + 1) = some o := X _ _ e
      exact absurd (Nat.lt_of_succ_lt (Heap.lt_size z)) (Nat.lt_irrefl _)
  refine call_own F.excBase_ValueError (fun X => refsVE_contains X _ (refs D)) (X _ _ hC) (looks_findIn X T.iC) (fun self => bind_fn X self T.tI) (one_size v) ?_
  obtain ⟨mb, hb1, hb2⟩ := GB
  refine we_init (s := ⟨(hp.push (kdv_tup [v])).push (excO C hp.objs.size), g, dr, tk, os⟩) Bt T (X.keeps k) (hlim.keeps k) (G.keeps k) ⟨mb, hb1.keeps k, hb2⟩ hget hnx ?_ fun h' tk' dx t1 ⟨k', hx, dn, dne, hns⟩ => ?_
  · show A.depth + 1 < recursionLimit
    exact hroom
  · have old : ∀ b o, hp.get? b = some o → h'.get? b = some o := fun b o e => k' b o (Nat.ne_of_lt (Nat.lt_succ_of_lt (Heap.lt_size e))) (k b o e)
    have z : hp.objs.size + 1 + 1 ≤ dx := by
      first
        | (simpa only [Heap.size_push] using dn)
        | exact dn
        | (have q := dn; rw [Heap.size_push, Heap.size_push] at q; exact q)
    exact ⟨rfl, hq h' tk' (hp.objs.size + 1) dx ⟨old, Nat.le_succ _, ⟨_, _, hx, rfl, rfl, rfl, rfl⟩, Nat.le_trans (Nat.le_trans (Nat.le_succ _) (Nat.le_succ _)) z, dne, hns⟩⟩
end
end WrX
end PySem
namespace L2
open PySem PySem.Spec PyProof.Rows
theorem relO_giv {v : V} {v' : Value} (r : RelV v v') (f : Str) : RelO (List.lookup f [(("given" : Str), v)]) (if f = "given" then some v' else none) := by
  by_cases hw : f = "given"
  · subst hw
    rw [if_pos rfl]
    have q : List.lookup ("given" : Str) [(("given" : Str), v)] = some v := by simp [List.lookup]
    rw [q]
    exact r
  · rw [if_neg hw]
    have qw : (f == ("given" : Str)) = false := by simpa using hw
    have q2 : List.lookup f [(("given" : Str), v)] = none := by simp [List.lookup, qw]
    rw [q2]
    trivial
section
variable {X : Cx} {D C fI : Addr} {nm : Str}
/-- C(e) -/
def tMkW (C : Addr) (ta : TA) : St → Hp → XK → Prop := fun σ H Q => ta σ H fun vs H1 => ∃ v, vs = [v] ∧ ∀ d, H1 d = none → Q (.ref C) (some d) (upd H1 d (.xd [(("given" : Str), v)]))
theorem pmk_wr {a : Expr} {ta : TA} {p pos : Pos} {k : Nat} (Bt : PySem.WrX.BaseTxt X.prog X.K X.mg D fI) (T : PySem.WrX.ClsTxt X.K X.mg nm D fI C) (hr : Room k X.A) (ha : PA X [a] ta) (hg : Gl X nm := by rfl) (hdb : (nm == ("__debug__" : Str)) = false := by decide)
    (he : starEach (a :: []) X.env = (false, eval a X.env) :: starEach [] X.env := by rfl) (hpl : (backTo pos (starEach [] X.env)).any (·.1) = false := by rfl) :
    PMk X (.Call (.Name nm p) [a] [] pos) (tMkW C ta) := by
  intro pins s σ H Q I h
  refine wpAny_Call_Name_kw (ld_glob I hg T.gC ?_ hdb)
  refine PySem.W.callWith_K (h₀ := X.base) I.ok.mod.kin T.kC (thn (ha.run pos pins s σ H _ I h) fun us s1 hh => ?_) he hpl
  obtain ⟨vs, H1, I1, r1, v, ev, q1⟩ := hh
  subst ev
  refine ⟨I1.kIn, ?_⟩
  cases r1 with
  | cons rv rn =>
    rename_i v' us'
    cases rn
    show wpAny _ _ (call (.ref C) [v']) _ _ _
    have hlim := I1.nolimit
    obtain ⟨mb, hb1, hb2⟩ := I1.mod.blt
    have hG := I1.mod.glob.keeps I1.bk
    have hB := hb1.keeps I1.bk
    have hK := I1.kIn
    obtain ⟨hp, g, dr, tk, os⟩ := s1
    refine wpAny_call (PySem.WrX.we_made Bt T hK hlim hG ⟨mb, hB, hb2⟩ (by have := hr.dp; omega) fun h' tk' e d M => ?_)
    show MkP X pins σ Q (.ref e) ⟨h', g, dr, tk', os⟩
    obtain ⟨oe, fv, hoe, hc, hd, hdat, h1⟩ := M.obj
    have hns := M.ns
    obtain ⟨G', g1, g2⟩ := restrict h' fun b => decide (b ≠ e)
    have gk : ∀ b, b ≠ e → G'.get? b = h'.get? b := fun b hb => g1 b (decide_eq_true hb)
    have ge : G'.get? e = none := g2 e (by simp)
    have old : ∀ b o, hp.get? b = some o → G'.get? b = some o := fun b o q => (gk b (Nat.ne_of_lt (Nat.lt_of_lt_of_le (Heap.lt_size q) M.new))).trans (M.keep b o q)
    have ob : ObjOk X.prog X.w (upd H1 d (.xd [(("given" : Str), v)])) G' d (.xd [(("given" : Str), v)]) :=
      ⟨_, hns.at (fun o q => (gk d M.dne).trans q), fun f => relO_giv rv f⟩
    have J : Inv X pins σ (upd H1 d (.xd [(("given" : Str), v)])) ⟨G', g, dr, tk', os⟩ := I1.laid (t' := tk') old M.dbig ob
    refine ⟨e, oe, fv, ⟨G', g, dr, tk', os⟩, _, .ref C, some d, rfl, J, fun b o q => ?_, ge, hoe, ⟨hc, hd⟩, hdat, h1, ?_, rfl, I1.bare, raises_own T.exC T.tyC, q1 d (I1.hok.fresh M.dbig)⟩
    · by_cases hb : b = e
      · have q' : G'.get? b = some o := q
        rw [hb, ge] at q'; cases q'
      · exact (gk b hb).symm.trans q
    · rw [upd_ne (Ne.symm M.dne)]
      exact I1.hok.fresh M.new
/-- raise C(e) -/
def tRaiseW (C : Addr) (W : WX) (ta : TA) : TS := fun _ σ H => tMkW C ta σ H fun cls d H' => W cls d σ H'
theorem ps_raiseW {a : Expr} {ta : TA} {W : WX} {p pos pos2 : Pos} {k : Nat} (hc : X.calm = true) (Bt : PySem.WrX.BaseTxt X.prog X.K X.mg D fI) (T : PySem.WrX.ClsTxt X.K X.mg nm D fI C) (hr : Room k X.A) (tk : Takes X W) (ha : PA X [a] ta) (hg : Gl X nm := by rfl) (hdb : (nm == ("__debug__" : Str)) = false := by decide)
    (he : starEach (a :: []) X.env = (false, eval a X.env) :: starEach [] X.env := by rfl) (hpl : (backTo pos (starEach [] X.env)).any (·.1) = false := by rfl) :
    PS X (.Raise (some (.Call (.Name nm p) [a] [] pos)) none pos2) (tRaiseW C W ta) := ps_raise hc tk (pmk_wr Bt T hr ha hg hdb he hpl)
end
end L2

end
section
set_option Elab.async false
set_option linter.all false
set_option maxRecDepth 100000
set_option maxHeartbeats 2000000
/-! EwY: several except clauses with names; defs that raise, by types; calls with keywords only. -/
namespace L2
open PySem PySem.Spec PyProof.Rows
abbrev Hdl := Value × Nat × (Addr → Value → Option Addr → TS)
def wManyA (K : PySem.W.Frag) (Wout : WX) (D : Ends) : List Hdl → WX
  | [] => Wout
  | (c, i, ts) :: r => fun cls d σ H => ∃ b, PySem.W.exmOne K cls c = some b ∧
    (b = true → ∀ a, H a = none → ts a cls d { nx := fun σ' H' => D.nx (σ'.set i none) H', rt := D.rt, bk := fun σ' H' => D.bk (σ'.set i none) H', ct := fun σ' H' => D.ct (σ'.set i none) H' } (σ.set i (some (.ref a))) H) ∧ (b = false → wManyA K Wout D r cls d σ H)
inductive HdsA (X : Cx) : List ExceptHandler → List Hdl → Prop
  | nil : HdsA X [] []
  | cons {x n : Str} {c : Value} {i : Nat} {ts : Addr → Value → Option Addr → TS} {b₀ : Stmt} {suite : List Stmt} {np pos' : Pos} {hds : List ExceptHandler} {l : List Hdl} (hi : X.N[i]? = some n) (hln : X.env.kindOf n = some .local) (hc : Names X x c)
      (hsu : ∀ (a : Addr) (oe : Obj) (cls : Value) (d : Option Addr) (pn : List (Addr × Obj)), Zc cls d oe → (∃ vs, oe.data = .fields vs) → PSs (X.suite a ((a, oe) :: pn)) (b₀ :: suite) (ts a cls d)) (r : HdsA X hds l) :
      HdsA X (.ExceptHandler (some (.Name x np)) (some n) (b₀ :: suite) pos' :: hds) ((c, i, ts) :: l)
  /-- the clauses behind are never asked -/
  | stop {hds : List ExceptHandler} : HdsA X hds [(.none, 0, fun _ _ _ => tNext)]
/-- try .. except ..: tb the body -/
def tTry (K : PySem.W.Frag) (Wout : WX) (l : List Hdl) (tb : WX → TS) : TS := fun D σ H => tb (wManyA K Wout D l) D σ H
section
variable {X : Cx} {body : List Stmt} {h₀ : ExceptHandler} {hds : List ExceptHandler} {l : List Hdl} {pos : Pos} {tb : WX → TS} {Wout : WX}
theorem ps_try_manyA (hs : X.stack = X.env :: X.outer) (hf : X.env.frame = some X.env.locals) (hN : X.N.Nodup) (tk : Takes X Wout)
    (hb : ∀ (W : WX) (pn : List (Addr × Obj)) (xe : Value → Shared → Prop), Takes (X.tr pn xe) W → PassesOwn (model X.prog X.w) X.A X.env xe → PSs (X.tr pn xe) body (tb W))
    (hh : HdsA X (h₀ :: hds) l) : PS X (.Try body (h₀ :: hds) [] [] pos) (tTry X.K Wout l tb) := by
  refine ⟨fun pins s σ H D I h => ?_⟩
  have ok := I.ok
  have hfr : X.A.frames = some (X.env :: X.outer) := by rw [ok.frames, hs]
  refine wpAny_Try_except ?_
  refine wpAny_mono ((hb (wManyA X.K Wout D l) (X.pn ++ pins) (fun e s₁ => wpAny (model X.prog X.w) X.A (noteFrame e X.env) (fun _ s₂ => wpAny (model X.prog X.w) X.A (setFlight e none) (fun _ s₃ =>
    wpAny (model X.prog X.w) X.A (handleBy e X.env (h₀ :: hds)) (SP X pins D) X.xe s₃) X.xe s₂) X.xe s₁) (fun u s' xx => ?_) PassesOwn.looking).run [] s σ H D (I.toTry _) h) (fun f s1 hsp => ?_) (fun e s1 he => he)
  · -- the catch
    obtain ⟨a, B, sI, pins', σ', H', cls, d, rfl, J', nb, up, sky, na, os, ag, w⟩ := xx
    have J : Inv X pins σ' H' sI := J'.ofTry ok
    have sky' : Sky B (X.env :: X.outer) a (Zc cls d) X.env.locals s'.heap := by rw [← hs]; exact sky
    show wpAny (model X.prog X.w) X.A (noteFrame (.ref a) X.env) _ _ _
    refine Sky.land Zc.steady hfr hf sky' fun h3 fl3 up3 => ?_
    have J3 : Inv X pins σ' H' { s' with heap := h3 } := J.landed nb fl3.1 (up.trans up3) os ag
    obtain ⟨oe3, vs3, he3, hz3, hd3⟩ := fl3.there
    have notFr : ∀ {h : Heap} {o : Obj} {vs : Array Value}, h.FunFrames B (X.env :: X.outer) → h.get? a = some o → o.data = .fields vs → a ∉ frs (X.env :: X.outer) := fun {h o vs} ff e dd hm => by
      obtain ⟨_, o', e', hnf⟩ := ff.mem hm
      rw [e] at e'; cases e'
      exact hnf _ dd
    have nfr := notFr fl3.2.2.1 he3 hd3
    have nL : a ≠ X.env.locals := fun z => nfr (List.mem_filterMap.mpr ⟨X.env, List.mem_cons_self, by rw [hf, z]⟩)
    have nF : a ∉ X.fs := fun hm => by
      obtain ⟨e, he, q⟩ := List.mem_filterMap.mp hm
      exact nfr (List.mem_filterMap.mpr ⟨e, List.mem_cons_of_mem _ he, q⟩)
    have S3 := J3.suite he3 hd3 na nL nF
    have go : ∀ {hds' : List ExceptHandler} {l' : List Hdl}, HdsA X hds' l' → wManyA X.K Wout D l' cls d σ' H' →
        wpAny (model X.prog X.w) X.A (handleBy (.ref a) X.env hds') (SP X pins D) X.xe { s' with heap := h3 } := by
      intro hds' l' hk
      induction hk with
      | stop =>
        intro w
        obtain ⟨b, hb, _⟩ := w
        cases hb
      | nil =>
        intro w
        refine wpAny_handleBy_nil ?_
        obtain ⟨k1, k2, k3, oe, vs, T, oT, ts', he, hz, hd, h1, hr⟩ := id fl3
        unfold PySem.passOn
        refine wpAny_bind (wpAny_field he hd h1 ?_)
        rw [if_neg (show ¬ ((Value.ref T == Value.none) = true) from by simp)]
        have fin : wpAny (model X.prog X.w) X.A (setFlight (.ref a) X.env.frame) (fun _ s4 => wpAny (model X.prog X.w) X.A (throw (.ref a) : Sem Flow) (SP X pins D) X.xe s4) X.xe { s' with heap := h3 } := by
          rw [hf]
          refine HandSPX.setFlight_upZ fl3 fun h4 hh4 up4 => wpAny_throw (tk _ _ ?_)
          exact ⟨a, B, sI, pins, σ', H', cls, d, rfl, J, nb, (up.trans up3).trans up4, .inr (.inr (by rw [hs]; exact hh4)), na, os, ag, w⟩
        first
          | exact wpAny_bind (wpAny_pure (wpAny_bind fin))
          | exact wpAny_bind fin
      | @cons x n c i ts b₀ suite np pos' hds2 l2 hi hln hc hsu r ih =>
        intro w
        have hloc : Loc X.env.scope n := .inl hln
        obtain ⟨b, hb1, hyes, hno⟩ := w
        refine wpAny_handleBy_cons (codeAny_handlers_test ?_) (by intro q; cases q)
        have LT : PySem.W.Looks (model X.prog X.w) h3 (typeOf (.ref a)) cls := fun A Q E s k q => wpAny_typeOf_ref (k _ _ he3) (by rw [hz3.1]; exact q)
        have LM := PySem.W.exm_one (M := model X.prog X.w) (J3.kIn) LT hb1
        have test : ∀ {Q : Value → Shared → Prop} {E : Value → Shared → Prop}, Q c { s' with heap := h3 } → wpAny (model X.prog X.w) (X.A.mark (some (.ref a))) (eval (.Name x np) X.env) Q E { s' with heap := h3 } := fun {Q E} q => by
          obtain ⟨hg, hdbg, hm | ⟨hm, hv, hnn⟩⟩ := hc
          · exact ld_glob (X := X.suite a ((a, oe3) :: (X.pn ++ pins))) S3 hg hm q hdbg
          · exact ld_blt (X := X.suite a ((a, oe3) :: (X.pn ++ pins))) S3 hg hm hv q hnn hdbg
        refine test (LM.here ?_)
        cases b with
        | true =>
          refine codeAny_handlers_suite_as ?_
          refine HandSPX.lands_againZ fl3 fun h4 fl4 up4 => ?_
          have J4 : Inv X pins σ' H' { s' with heap := h4 } := J.landed nb fl4.1 ((up.trans up3).trans up4) os ag
          obtain ⟨oe4, vs4, he4, hz4, hd4⟩ := fl4.there
          have S4 := J4.suite he4 hd4 na nL nF
          refine store_ok (X := X.suite a ((a, oe4) :: (X.pn ++ pins))) (v := .ref a) S4 hN hi hloc rfl (fun s5 S5 => ?_) (.inr hln)
          refine wpAny_mono ((hsu a oe4 cls d (X.pn ++ pins) hz4 ⟨_, hd4⟩).run [] s5 _ H' _ S5 (hyes rfl a na)) (fun f s6 hsp => ?_) (fun _ _ z => False.elim z)
          have end_ : ∀ {σ6 : St} {H6 : Hp} {Q : Shared → Prop}, Inv (X.suite a ((a, oe4) :: (X.pn ++ pins))) [] σ6 H6 s6 → (∀ s7, Inv X pins (σ6.set i none) H6 s7 → Q s7) →
              wpAny (model X.prog X.w) X.A (do bindName X.env n .none; unbindBehindTheSuite X.env n pos') (fun _ s7 => Q s7) X.xe s6 := fun {σ6 H6 Q} S6 hq => gone_ok (S6.unsuite ok) hN hi hln hq
          cases f with
          | next =>
            obtain ⟨σ6, H6, S6, q6⟩ := hsp
            exact end_ S6 fun s7 J7 => ⟨_, _, J7, q6⟩
          | brk =>
            obtain ⟨σ6, H6, S6, q6⟩ := hsp
            exact end_ S6 fun s7 J7 => ⟨_, _, J7, q6⟩
          | cont =>
            obtain ⟨σ6, H6, S6, q6⟩ := hsp
            exact end_ S6 fun s7 J7 => ⟨_, _, J7, q6⟩
          | ret u =>
            obtain ⟨v6, σ6, H6, S6, r6, q6⟩ := hsp
            exact end_ S6 fun s7 J7 => ⟨_, _, _, J7, r6, q6⟩
        | false =>
          show wpAny _ X.A (handleBy (.ref a) X.env hds2) _ _ _
          exact ih (hno rfl)
    exact go hh w
  · cases f with
    | next =>
      obtain ⟨σ', H', J', q⟩ := hsp
      exact wpAny_execs_nil ⟨σ', H', J'.ofTry ok, q⟩
    | brk =>
      obtain ⟨σ', H', J', q⟩ := hsp
      exact ⟨σ', H', J'.ofTry ok, q⟩
    | cont =>
      obtain ⟨σ', H', J', q⟩ := hsp
      exact ⟨σ', H', J'.ofTry ok, q⟩
    | ret u =>
      obtain ⟨v, σ', H', J', r, q⟩ := hsp
      exact ⟨v, σ', H', J'.ofTry ok, r, q⟩
theorem k_try {K : PySem.W.Frag} (hK : X.K = K) (hs : X.stack = X.env :: X.outer) (hf : X.env.frame = some X.env.locals) (hN : X.N.Nodup) (tk : Takes X Wout)
    (hb : ∀ (W : WX) (pn : List (Addr × Obj)) (xe : Value → Shared → Prop), Takes (X.tr pn xe) W → PassesOwn (model X.prog X.w) X.A X.env xe → PSs (X.tr pn xe) body (tb W))
    (hh : HdsA X (h₀ :: hds) l) : PS X (.Try body (h₀ :: hds) [] [] pos) (tTry K Wout l tb) := hK ▸ ps_try_manyA hs hf hN tk hb hh
end
/-! ### calls with keywords only -/
structure KB (K : PySem.W.Frag) (fd : FuncData) (ps ks : List Str) (g : List Value → List Value) (gV : List V → List V) : Prop where
  to : ∀ (s : Shared) (ws : List Value), K.In s.heap → (g ws).length = ps.length → BindsTo s fd ⟨[], ks.zip ws⟩ (ps.zip (g ws))
  rel : ∀ {zs : List V} {ws : List Value}, Vals zs ws → Vals (gV zs) (g ws)
def tCallKS (sp : Sp) (gV : List V → List V) (E : St → XK) (tk : TA) : TE := fun σ H Q => tk σ H fun zs H1 => sp (gV zs) H1 Q (E σ)
section
variable {X : Cx} {CX : CXT} {k : Nat} {f : Addr} {fd : FuncData} {ps ks : List Str} {sp : Sp} {E : St → XK} {x : Str} {p pos : Pos} {kws : List Keyword} {tk : TA} {g : List Value → List Value} {gV : List V → List V}
theorem pe_callKS (F : FnOk X.prog X.w X.K X.mg X.base CX k f fd ps sp) (hr : Room k X.A) (hg : Gl X x) (hm : X.mg x = some (.ref f)) (hk : PySem.W.keepIn X.K (.ref f) = true) (hb : KB X.K fd ps ks g gV) (hx : ∀ σ, PassesAt CX X σ (E σ))
    (hkw : PK X kws tk) (hall : (backToKw pos (keywordEach kws X.env)).all (·.1.isSome) = true := by rfl) (hks : (backToKw pos (keywordEach kws X.env)).filterMap (·.1) = ks := by rfl)
    (hdb : (x == ("__debug__" : Str)) = false := by decide) (hpl : ((backTo pos (starEach [] X.env)).any (·.1) || (backToKw pos (keywordEach kws X.env)).any (·.1.isNone)) = false := by rfl) :
    PE X (.Call (.Name x p) [] kws pos) (tCallKS sp gV E tk) := by
  refine ⟨fun pins s σ H Q I h => ?_⟩
  refine wpAny_Call_Name_kw (ld_glob I hg hm ?_ hdb)
  refine PySem.W.callWith_KW0 (h₀ := X.base) I.ok.mod.kin hk hall (thn (hkw.run pos pins s σ H _ I h) fun ws s2 ⟨zs, H2, I2, rz, q2⟩ => ⟨I2.kIn, ?_⟩) hpl
  rw [hks]
  show wpAny _ _ (call (.ref f) [] (ks.zip ws)) _ _ _
  have r2 := hb.rel rz
  have hl : (g ws).length = ps.length := by rw [← r2.length]; exact F.len _ _ _ _ q2
  refine wpAny_call (codeAny_mono (F.run X.A X.stack s2 H2 ⟨[], ks.zip ws⟩ (g ws) (gV zs) Q (E σ) hr I2.env0 (hb.to s2 ws I2.kIn hl) r2 q2) fun r s' hq => ?_)
  cases r with
  | error e => exact hx σ pins H2 s2 e s' I2 hq
  | ok fl =>
    cases fl with
    | ret u => exact I2.after hq
    | next => exact False.elim hq
    | brk => exact False.elim hq
    | cont => exact False.elim hq
end
section
variable {K : PySem.W.Frag} {x qual : Str} {st : Stmt} {f : Addr} {fd : FuncData} {ps ks : List Str}
/-- every parameter by its keyword, in order -/
theorem Fun.kb (F : Fun K x qual st f fd)
    (h : ∀ (kV doc pm : Value) (an : Option Addr) (cdv ct : Value) (us : List Value), us.length = ps.length → bindArgs (PySem.W.fnOf x qual (defArgs st) (defBody st) (defScope st) .none kV doc pm an cdv ct) ⟨[], ks.zip us⟩ = pure (ps.zip us)) : KB K fd ps ks id id := by
  obtain ⟨oc, od, kV, doc, pm, an, cdv, ct, osl, rfl, lk, hcd⟩ := F.ex
  exact ⟨fun s ws _ hl => .of_eq (h kV doc pm an cdv ct ws hl), fun r => r⟩
theorem vals_rev : ∀ {vs : List V} {us : List Value}, Vals vs us → Vals vs.reverse us.reverse
  | _, _, .nil => .nil
  | _, _, .cons r rs => by
    rw [List.reverse_cons, List.reverse_cons]
    exact (vals_rev rs).append (.cons r .nil)
/-- .. in the order turned -/
theorem Fun.kbR (F : Fun K x qual st f fd)
    (h : ∀ (kV doc pm : Value) (an : Option Addr) (cdv ct : Value) (us : List Value), us.length = ps.length → bindArgs (PySem.W.fnOf x qual (defArgs st) (defBody st) (defScope st) .none kV doc pm an cdv ct) ⟨[], ks.zip us⟩ = pure (ps.zip us.reverse)) : KB K fd ps ks List.reverse List.reverse := by
  obtain ⟨oc, od, kV, doc, pm, an, cdv, ct, osl, rfl, lk, hcd⟩ := F.ex
  exact ⟨fun s ws _ hl => .of_eq (h kV doc pm an cdv ct ws (by rw [List.length_reverse] at hl; exact hl)), fun r => vals_rev r⟩
end
end L2
namespace Ew
open PySem PySem.Spec PyProof.Rows L2
/-! ### errors by types -/
/-- an error at the dict dd holds a value of the type T -/
def Held (W : Wd) (T : Typ) (dd : Addr) (H : Hp) : Prop := ∃ v, H dd = some (.xd [(("given" : Str), v)]) ∧ T.at W v H
/-- as spT; where bad x tells a class and a type, an error of it instead -/
def spE {α : Type} (C : α → Prop) (A : α → List Typ) (R : α → Typ) (bad : α → Option (Addr × Typ)) : Sp := fun vs H Q E => ∃ (M B : Addr → Prop) (x : α), (∀ a, B a → M a) ∧ (∀ a, B a → BoxAt H a) ∧ (∀ a, M a → H a ≠ none) ∧ C x ∧ TysV M B (A x) vs H ∧
  (bad x = none → ∀ v H', Ex B H H' → (R x).p M B v H' → Q v H') ∧ (∀ c T, bad x = some (c, T) → ∀ dd v H', Ex B H H' → T.p M B v H' → H' dd = some (.xd [(("given" : Str), v)]) → E (.ref c) (some dd) H')
/-- an own error's class -/
def erT (dd a : Addr) (T : Typ) : Typ := ⟨fun M B v H => v = .ref a ∧ ∃ u, H dd = some (.xd [(("given" : Str), u)]) ∧ T.p M B u H, fun e ⟨h, u, h1, h2⟩ => ⟨h, u, e.keepT h1 (fun _ z => nomatch z), T.up e h2⟩, fun n ⟨h, u, h1, h2⟩ => ⟨h, u, h1, T.weak n h2⟩, fun ⟨h, u, h1, h2⟩ => ⟨h, u, h1, T.drop h2⟩⟩
section
variable {W : Wd} {Γ : Gam} {tl : TA} {te : TE} {T U : Typ} {α : Type} {C : α → Prop} {A : α → List Typ} {R : α → Typ} {bad : α → Option (Addr × Typ)} {Wx : WX} {N : Sx → Hp → Prop} {Rr : V → Hp → Prop} {Bk Ct : Sx → Hp → Prop} {c : Addr} {φ : Prop}
/-- what is wished of an error of the class c that holds a value of the type T -/
def ErK (W : Wd) (Γ : Gam) (Wx : WX) (c : Addr) (T : Typ) : Prop := ∀ dd σ H, nE W Γ σ H → Held W T dd H → Wx (.ref c) (some dd) σ H
theorem ty_callE (x : α) (hC : C x) (h : TyA W Γ tl (A x)) (hb : ∀ c T, bad x = some (c, T) → ErK W Γ Wx c T) : Ty W Γ (tCallS (spE C A R bad) (WE Wx) tl) (gd (bad x = none) (R x)) := fun σ H c g Q q =>
  h σ H c g _ fun vs H1 e1 hv => ⟨W.M, W.B, x, W.sub, (c.up e1).box, (c.up e1).al, hC, hv, fun k v H2 e2 h2 => q v H2 (e1.trans e2) ⟨k, h2⟩,
    fun cc T k dd v H' e2 h2 h3 => hb cc T k dd σ H' ⟨c.up (e1.trans e2), g.up (e1.trans e2).toW⟩ ⟨v, h3, h2⟩⟩
/-- .. where nothing is let out -/
theorem ty_callE0 {E : XK} (x : α) (hC : C x) (h : TyA W Γ tl (A x)) (hb : bad x = none) : Ty W Γ (tCall (spE C A R bad) [] E tl) (R x) := fun σ H c g Q q =>
  h σ H c g _ fun vs H1 e1 hv => ⟨W.M, W.B, x, W.sub, (c.up e1).box, (c.up e1).al, hC, by rw [List.append_nil]; exact hv, fun k v H2 e2 h2 => q v H2 (e1.trans e2) h2,
    fun cc T k => by rw [hb] at k; cases k⟩
theorem ty_callKE {gV : List V → List V} {Us : List Typ} (x : α) (hC : C x) (h : TyA W Γ tl Us) (hg : ∀ {vs H}, TysV W.M W.B Us vs H → TysV W.M W.B (A x) (gV vs) H) (hb : ∀ c T, bad x = some (c, T) → ErK W Γ Wx c T) :
    Ty W Γ (tCallKS (spE C A R bad) gV (WE Wx) tl) (gd (bad x = none) (R x)) := fun σ H c g Q q =>
  h σ H c g _ fun vs H1 e1 hv => ⟨W.M, W.B, x, W.sub, (c.up e1).box, (c.up e1).al, hC, hg hv, fun k v H2 e2 h2 => q v H2 (e1.trans e2) ⟨k, h2⟩,
    fun cc T k dd v H' e2 h2 h3 => hb cc T k dd σ H' ⟨c.up (e1.trans e2), g.up (e1.trans e2).toW⟩ ⟨v, h3, h2⟩⟩
theorem ty_callKE0 {gV : List V → List V} {Us : List Typ} (x : α) (hC : C x) (h : TyA W Γ tl Us) (hg : ∀ {vs H}, TysV W.M W.B Us vs H → TysV W.M W.B (A x) (gV vs) H) (hb : bad x = none) :
    Ty W Γ (tCallKS (spE C A R bad) gV (fun _ => E0) tl) (R x) := fun σ H c g Q q =>
  h σ H c g _ fun vs H1 e1 hv => ⟨W.M, W.B, x, W.sub, (c.up e1).box, (c.up e1).al, hC, hg hv, fun k v H2 e2 h2 => q v H2 (e1.trans e2) h2,
    fun cc T k => by rw [hb] at k; cases k⟩
theorem ty_callK0 {gV : List V → List V} {Us : List Typ} (x : α) (hC : C x) (h : TyA W Γ tl Us) (hg : ∀ {vs H}, TysV W.M W.B Us vs H → TysV W.M W.B (A x) (gV vs) H) :
    Ty W Γ (tCallKS (spT C A R) gV (fun _ => E0) tl) (R x) := fun σ H c g Q q =>
  h σ H c g _ fun vs H1 e1 hv => ⟨W.M, W.B, x, W.sub, (c.up e1).box, (c.up e1).al, hC, hg hv, fun v H2 e2 h2 => q v H2 (e1.trans e2) h2⟩
theorem tysv_id {vs : List V} {H : Hp} {Ts : List Typ} (h : TysV W.M W.B Ts vs H) : TysV W.M W.B Ts (id vs) H := h
theorem tysv_rev2 {vs : List V} {H : Hp} (h : TysV W.M W.B [T, U] vs H) : TysV W.M W.B [U, T] vs.reverse H := by
  match vs, h with
  | [a, b], h => exact ⟨h.2.1, h.1, True.intro⟩
theorem Ty.gd (h : Ty W Γ te (gd φ T)) : Ty W Γ te T := h.sub fun _ _ _ z => z.2
/-- a call as a statement: behind it φ holds -/
theorem tys_dropG (h : Ty W Γ te (Ew.gd φ T)) : TyS W Γ (tDrop te) (fun σ H => φ ∧ nE W Γ σ H) Rr Bk Ct := fun σ H c g D dn _ _ _ => h σ H c g _ fun v H1 e z => dn σ H1 e.toW ⟨z.1, c.up e, g.up e.toW⟩
theorem tys_seqG {ts tw : TS} (h1 : TyS W Γ ts (fun σ H => φ ∧ nE W Γ σ H) Rr Bk Ct) (h2 : φ → TyS W Γ tw N Rr Bk Ct) : TyS W Γ (tSeq ts tw) N Rr Bk Ct := tys_seq h1 fun σ H ⟨f, n⟩ => ⟨W, Γ, Wd.Like.refl W, n, h2 f⟩
theorem tys_raise (h : Ty W Γ te T) (k : ErK W Γ Wx c T) : TyS W Γ (tRaiseW c Wx (tCons te tNil)) noN Rr Bk Ct := fun σ H cx g D _ _ _ _ =>
  h σ H cx g _ fun v H1 e hv => ⟨v, rfl, fun d hd => k d σ _ ⟨cx.up (e.trans (Ex.new hd)), g.up (e.trans (Ex.new hd)).toW⟩ ⟨v, upd_same, T.up (Ex.new (B := W.B) hd).toW hv⟩⟩
/-- err.given in a suite -/
theorem ty_given {a dd : Addr} {cls : Value} {d : Option Addr} (hc : cls = .ref c) (hd : d = some dd) (h : Ty W Γ te (erT dd a T)) : Ty W Γ (tXf a cls d c "given" te) T := fun σ H cx g Q q =>
  h σ H cx g _ fun v H1 e ⟨e1, u, h1, h2⟩ => ⟨e1, hc, dd, _, u, hd, h1, by simp [List.lookup], q u H1 e h2⟩
/-- try: the errors that its body lets out -/
theorem tys_try {K : PySem.W.Frag} {Wout : WX} {l : List Hdl} {tb : WX → TS} {Er : Value → Option Addr → Sx → Hp → Prop} (hb : ∀ Wx : WX, (∀ c d σ H, Er c d σ H → Wx c d σ H) → TyS W Γ (tb Wx) N Rr Bk Ct)
    (hh : ∀ D : Ends, (∀ v H', Rr v H' → D.rt v H') → ∀ c d σ H, Er c d σ H → wManyA K Wout D l c d σ H) : TyS W Γ (tTry K Wout l tb) N Rr Bk Ct := fun σ H c g D dn dr db dc =>
  hb (wManyA K Wout D l) (hh D dr) σ H c g D dn dr db dc
/-- the first clause takes it -/
theorem hdl_hit {K : PySem.W.Frag} {Wout : WX} {l : List Hdl} {D : Ends} {i : Nat} {ts : Addr → Value → Option Addr → TS} {dd : Addr} {σ : Sx} {H : Hp} {cc : Value} (hc : PySem.W.exmOne K (.ref c) cc = some true) (n : nE W Γ σ H) (hd : Held W T dd H)
    (dr : ∀ v H', Rr v H' → D.rt v H') (hs : ∀ a, TyS W (Γ.set i (some (erT dd a T))) (ts a (.ref c) (some dd)) noN Rr noN noN) : wManyA K Wout D ((cc, i, ts) :: l) (.ref c) (some dd) σ H :=
  ⟨true, hc, fun _ a ha => by
    obtain ⟨u, h1, h2⟩ := hd
    exact hs a _ H n.1 (EnvL.set (T := erT dd a T) ⟨rfl, u, h1, h2⟩ n.2) _ (fun _ _ _ z => z.elim) dr (fun _ _ _ z => z.elim) (fun _ _ _ z => z.elim), fun z => Bool.noConfusion z⟩
theorem hdl_miss {K : PySem.W.Frag} {Wout : WX} {l : List Hdl} {D : Ends} {i : Nat} {ts : Addr → Value → Option Addr → TS} {d : Option Addr} {σ : Sx} {H : Hp} {cc cls : Value} (hc : PySem.W.exmOne K cls cc = some false) (h : wManyA K Wout D l cls d σ H) :
    wManyA K Wout D ((cc, i, ts) :: l) cls d σ H := ⟨false, hc, fun z => Bool.noConfusion z, fun _ => h⟩
end
section
variable {P : Program} {w : World} {K : PySem.W.Frag} {mg : Str → Option Value} {base : Heap}
/-- a def that may raise, by its typed body -/
theorem fn_tyE {x qual : Str} {st : Stmt} {f : Addr} {fd : FuncData} {N ps : List Str} {k : Nat} {α : Type} {C : α → Prop} {A : α → List Typ} {R : α → Typ} {bad : α → Option (Addr × Typ)} (F : Fun K x qual st f fd) (S : FnScope N ps (defScope st))
    (len : ∀ x, C x → (A x).length = ps.length)
    (hbody : ∀ (cdv : Value) (Ar : Around) (outer : List Env) (s : Shared) (H : Hp) (E : XK), Room k (Ar.deeper (envOfC qual (defScope st) s.heap.objs.size f cdv)) →
      ∃ t, PSs (cxOf (L2.CX P w) P w K mg base N qual (defScope st) f cdv Ar outer s H E) (defBody st) t ∧ ∀ (W : Wd) (x : α), C x → (∀ Γ c T, bad x = some (c, T) → ErK W Γ (fun cls d _ H => E cls d H) c T) →
        TyS W ((A x).map some ++ List.replicate (N.length - ps.length) none) t (fun _ H' => bad x = none ∧ rW W (R x) .non H') (fun v H => bad x = none ∧ rW W (R x) v H) noN noN) :
    FnOk P w K mg base (L2.CX P w) (k + 1) f fd ps (spE C A R bad) := by
  refine F.okX S (fun vs H Q E h => ?_) fun cdv Ar outer s H vs Q E hr h => ?_
  · obtain ⟨M, B, x, _, _, _, hC, h, _⟩ := h
    rw [h.length, len x hC]
  · obtain ⟨M, B, x, hs, hb, ha, hC, h, q, qe⟩ := h
    obtain ⟨t, ht, k⟩ := hbody cdv Ar outer s H E hr
    refine ⟨t, ht, k (Wd.base M B H hs) x hC (fun Γ c T hb dd σ H' n hl => ?_) (L2.start N vs) H ⟨hb, ha, Ex.refl B H, True.intro⟩ ?_ _ (fun σ' H' _ n => q n.1 _ _ n.2.1 n.2.2) (fun v H' n => q n.1 _ _ n.2.1 n.2.2) (fun _ _ _ z => z.elim) (fun _ _ _ z => z.elim)⟩
    · obtain ⟨v, h1, h2⟩ := hl
      exact qe c T hb dd v H' n.1.ex h2 h1
    · unfold L2.start
      have e : vs.length = ps.length := by rw [h.length, len x hC]
      rw [e]
      exact env_start h _
theorem tys_retE {W : Wd} {Γ : Gam} {te : TE} {T : Typ} {φ : Prop} {Bk Ct : Sx → Hp → Prop} (hφ : φ) (h : Ty W Γ te T) : TyS W Γ (tRet te) noN (fun v H => φ ∧ rW W T v H) Bk Ct := tys_ret h fun v H c k => ⟨hφ, c.ex, k⟩
theorem tys_retG {W : Wd} {Γ : Gam} {te : TE} {T : Typ} {φ : Prop} {Bk Ct : Sx → Hp → Prop} (h : Ty W Γ te (gd φ T)) : TyS W Γ (tRet te) noN (fun v H => φ ∧ rW W T v H) Bk Ct := tys_ret h fun v H c k => ⟨k.1, c.ex, k.2⟩
end
end Ew

end
section
set_option Elab.async false
set_option linter.all false
set_option maxRecDepth 100000
set_option maxHeartbeats 2000000
/-! EwZ: zip of a list with a tuple (turned from the worked proofs for two lists and for two tuples). -/
namespace RZ
open PySem
open PySem.Sem (wp)
section
variable {prog : Program} {w : World} {A : Around} {E : Value → Shared → Prop} {s : Shared}
theorem zipLT_next_item {z TI TO i1 i2 l1 l2 : Addr} {k1 k2 : Nat} {xs ys : Array Value} {x y a b : Value} {Q : Value → Shared → Prop} (D : ZipApart z TI TO i1 i2 l1 l2)
    (hz : IsZip s.heap z TI TO .none) (hTI : IsPair s.heap TI (.ref i1) (.ref i2)) (hTO : IsPair s.heap TO a b)
    (h1 : s.heap.IsListIter i1 l1 k1) (h2 : s.heap.IsTupleIter i2 l2 k2) (hl1 : s.heap.IsList l1 xs) (hl2 : s.heap.IsTuple l2 ys) (hx : xs[k1]? = some x) (hy : ys[k2]? = some y)
    (hQ : ∀ h', IsZip h' z TI TO (rawInt s.heap.objs.size) → IsPair h' TO x y → h'.IsListIter i1 l1 (k1 + 1) → h'.IsTupleIter i2 l2 (k2 + 1) → IsPair h' s.heap.objs.size x y → h'.objs.size = s.heap.objs.size + 1 →
      (∀ c o, c ≠ z → c ≠ TO → c ≠ i1 → c ≠ i2 → s.heap.get? c = some o → h'.get? c = some o) → Q (.ref s.heap.objs.size) { s with heap := h' }) :
    wpAny (model prog w) A (Builtin.«zip.__next__» ⟨[.ref z], []⟩) (fun fin s' => ∃ v, fin = .done (.ret v) ∧ Q v s') E s := by
  show wpAny _ _ (field (.ref z) 2 >>= _) _ _ _
  refine wpAny_bind (wpAny_field hz rfl (x := .bool false) rfl ?_)
  show wpAny _ _ (field (.ref z) 3 >>= _) _ _ _
  refine wpAny_bind (wpAny_field hz rfl (x := .ref TI) rfl ?_)
  refine wpAny_bind (wpAny_seqItems hTI rfl ?_)
  show wpAny _ _ (Builtin.SmallTypes.ownedTupleIsFree (.ref z) >>= _) _ _ _
  refine wpAny_bind ?_
  unfold Builtin.SmallTypes.ownedTupleIsFree
  refine wpAny_bind (wpAny_field hz rfl (x := .none) rfl (wpAny_pure ?_))
  simp only [if_true]
  refine wpAny_bind (wpAny_rule ?_)
  refine wpAny_bind (wpAny_field hz rfl (x := .ref TO) rfl ?_)
  refine wpAny_bind (wpAny_setField_rec hz (by simp) fun h₁ hz₁ hs₁ => ?_)
  replace hz₁ : IsZip h₁ z TI TO .ellipsis := hz₁
  refine wpAny_bind ?_
  simp only [List.zipIdx_cons, List.zipIdx_nil, List.forIn_cons, List.forIn_nil]

  refine wpAny_bind (wpAny_bind (wpAny_onRaise ?_))
  show wpAny _ _ (Builtin.SmallTypes.nextOf (.ref i1) >>= _) _ _ _
  refine wpAny_bind (wpAny_nextOf_list_item (h1.extBut hs₁.extBut D.i1z) (hl1.extBut hs₁.extBut D.l1z) hx fun h₂ h1₂ hs₂ => wpAny_pure ?_)
  have hTO₂ : IsPair h₂ TO a b := hs₂.extBut _ _ D.TOi1 (hs₁.extBut _ _ D.TOz hTO)
  refine wpAny_bind (wpAny_seqItems hTO₂ rfl ?_)
  refine wpAny_bind (wpAny_updateSeq_pair hTO₂ fun h₃ hTO₃ hs₃ => ?_)
  replace hTO₃ : IsPair h₃ TO x b := hTO₃
  refine wpAny_bind (wpAny_letGo (wpAny_pure ?_))

  refine wpAny_bind (wpAny_bind (wpAny_onRaise ?_))
  show wpAny _ _ (Builtin.SmallTypes.nextOf (.ref i2) >>= _) _ _ _
  refine wpAny_bind (nextOf_tuple_item (((h2.extBut hs₁.extBut D.i2z).extBut hs₂.extBut D.i12.symm).extBut hs₃.extBut D.TOi2.symm)
    (((hl2.extBut hs₁.extBut D.l2z).extBut hs₂.extBut D.l2i1).extBut hs₃.extBut D.l2TO) hy fun h₄ h2₄ hs₄ => wpAny_pure ?_)
  have hTO₄ : IsPair h₄ TO x b := hs₄.extBut _ _ D.TOi2 hTO₃
  refine wpAny_bind (wpAny_seqItems hTO₄ rfl ?_)
  refine wpAny_bind (wpAny_updateSeq_pair hTO₄ fun h₅ hTO₅ hs₅ => ?_)
  replace hTO₅ : IsPair h₅ TO x y := hTO₅
  refine wpAny_bind (wpAny_letGo (wpAny_pure (wpAny_pure ?_)))

  refine wpAny_bind (wpAny_seqItems hTO₅ rfl ?_)
  refine wpAny_bind (wpAny_newTuple ?_)
  have hsz : h₅.objs.size = s.heap.objs.size := by rw [hs₅.1, hs₄.1, hs₃.1, hs₂.1, hs₁.1]
  have hz₅ : IsZip h₅ z TI TO .ellipsis := hs₅.extBut _ _ D.TOz.symm (hs₄.extBut _ _ D.i2z.symm (hs₃.extBut _ _ D.TOz.symm (hs₂.extBut _ _ D.i1z.symm hz₁)))
  have hk₅ : ∀ c o, c ≠ z → c ≠ TO → c ≠ i1 → c ≠ i2 → s.heap.get? c = some o → h₅.get? c = some o := fun c o c1 c2 c3 c4 e =>
    hs₅.extBut _ _ c2 (hs₄.extBut _ _ c4 (hs₃.extBut _ _ c2 (hs₂.extBut _ _ c3 (hs₁.extBut _ _ c1 e))))
  have h1₅ : h₅.IsListIter i1 l1 (k1 + 1) := ((h1₂.extBut hs₃.extBut D.TOi1.symm).extBut hs₄.extBut D.i12).extBut hs₅.extBut D.TOi1.symm
  have h2₅ : h₅.IsTupleIter i2 l2 (k2 + 1) := h2₄.extBut hs₅.extBut D.TOi2.symm
  have hzlt : z < h₅.objs.size := Heap.lt_size hz₅
  have hTOlt : TO < h₅.objs.size := Heap.lt_size hTO₅
  have hi1lt : i1 < h₅.objs.size := by obtain ⟨_, e, _⟩ := h1₅; exact Heap.lt_size e
  have hi2lt : i2 < h₅.objs.size := by obtain ⟨_, e, _⟩ := h2₅; exact Heap.lt_size e
  show wpAny _ _ (Builtin.SmallTypes.ownedTupleHandOut (.ref z) (.ref h₅.objs.size) >>= _) _ _ _
  refine wpAny_bind ?_
  unfold Builtin.SmallTypes.ownedTupleHandOut
  have hz₆ : IsZip (h₅.push { cls := .type "tuple", data := .seq #[x, y] }) z TI TO .ellipsis := Heap.get?_push_of_some _ hz₅
  refine wpAny_bind (wpAny_setField_rec hz₆ (by simp) fun h₇ hz₇ hs₇ => ?_)
  replace hz₇ : IsZip h₇ z TI TO (rawInt h₅.objs.size) := hz₇
  refine wpAny_setField_rec hz₇ (by simp) fun h₈ hz₈ hs₈ => ?_
  replace hz₈ : IsZip h₈ z TI TO (rawInt h₅.objs.size) := hz₈
  have up : ∀ c o, c ≠ z → h₅.get? c = some o → h₈.get? c = some o := fun c o c1 e => hs₈.extBut _ _ c1 (hs₇.extBut _ _ c1 (Heap.get?_push_of_some _ e))
  have hT₈ : IsPair h₈ h₅.objs.size x y := hs₈.extBut _ _ (Nat.ne_of_gt hzlt) (hs₇.extBut _ _ (Nat.ne_of_gt hzlt) (Heap.get?_push_size _ rfl))
  have hz8 : h₈.objs.size = h₅.objs.size + 1 := by rw [hs₈.1, hs₇.1, Heap.size_push]
  rw [hsz] at hz₈ hT₈ hz8
  refine wpAny_pure ⟨_, rfl, ?_⟩
  show Q (.ref h₅.objs.size) _
  rw [hsz]
  exact hQ h₈ hz₈ (up _ _ D.TOz hTO₅) (h1₅.at fun o e => up _ o D.i1z e) (h2₅.at fun o e => up _ o D.i2z e) hT₈ hz8 fun c o c1 c2 c3 c4 e => up c o c1 (hk₅ c o c1 c2 c3 c4 e)

theorem zipLT_next_end {z TI TO i1 i2 l1 l2 : Addr} {k1 k2 : Nat} {xs ys : Array Value} {a b : Value} {Q : Fin → Shared → Prop} (hh : A.handled = none) (D : ZipApart z TI TO i1 i2 l1 l2)
    (hz : IsZip s.heap z TI TO .none) (hTI : IsPair s.heap TI (.ref i1) (.ref i2)) (hTO : IsPair s.heap TO a b)
    (h1 : s.heap.IsListIter i1 l1 k1) (h2 : s.heap.IsTupleIter i2 l2 k2) (hl1 : s.heap.IsList l1 xs) (hl2 : s.heap.IsTuple l2 ys) (hend : xs[k1]? = none ∨ ys[k2]? = none)
    (hE : ∀ h' e, (∀ c o, c ≠ z → c ≠ TO → c ≠ i1 → c ≠ i2 → s.heap.get? c = some o → h'.get? c = some o) → (∃ o, h'.get? e = some o ∧ o.cls = .type "StopIteration") → E (.ref e) { s with heap := h' }) :
    wpAny (model prog w) A (Builtin.«zip.__next__» ⟨[.ref z], []⟩) Q E s := by
  show wpAny _ _ (field (.ref z) 2 >>= _) _ _ _
  refine wpAny_bind (wpAny_field hz rfl (x := .bool false) rfl ?_)
  show wpAny _ _ (field (.ref z) 3 >>= _) _ _ _
  refine wpAny_bind (wpAny_field hz rfl (x := .ref TI) rfl ?_)
  refine wpAny_bind (wpAny_seqItems hTI rfl ?_)
  show wpAny _ _ (Builtin.SmallTypes.ownedTupleIsFree (.ref z) >>= _) _ _ _
  refine wpAny_bind ?_
  unfold Builtin.SmallTypes.ownedTupleIsFree
  refine wpAny_bind (wpAny_field hz rfl (x := .none) rfl (wpAny_pure ?_))
  simp only [if_true]
  refine wpAny_bind (wpAny_rule ?_)
  refine wpAny_bind (wpAny_field hz rfl (x := .ref TO) rfl ?_)
  refine wpAny_bind (wpAny_setField_rec hz (by simp) fun h₁ hz₁ hs₁ => ?_)
  replace hz₁ : IsZip h₁ z TI TO .ellipsis := hz₁
  refine wpAny_bind ?_
  simp only [List.zipIdx_cons, List.zipIdx_nil, List.forIn_cons, List.forIn_nil]
  refine wpAny_bind (wpAny_bind (wpAny_onRaise ?_))
  show wpAny _ _ (Builtin.SmallTypes.nextOf (.ref i1) >>= _) _ _ _
  cases hx : xs[k1]? with
  | none =>
    refine wpAny_bind (wpAny_nextOf_list_end hh (h1.extBut hs₁.extBut D.i1z) (hl1.extBut hs₁.extBut D.l1z) hx fun h₂ e hs₂ he => ?_)
    obtain ⟨oe, hoe, hce⟩ := he
    have hz₂ : IsZip h₂ z TI TO .ellipsis := hs₂ _ _ D.i1z.symm hz₁
    have hez : e ≠ z := fun x => by subst x; rw [hz₂] at hoe; cases hoe; simp at hce
    refine wpAny_setField_rec hz₂ (by simp) fun h₃ _ hs₃ => hE h₃ e (fun c o c1 _ c3 _ x => hs₃.extBut _ _ c1 (hs₂ _ _ c3 (hs₁.extBut _ _ c1 x))) ⟨oe, hs₃.extBut _ _ hez hoe, hce⟩
  | some x =>
    have hy : ys[k2]? = none := by rcases hend with h | h; rw [hx] at h; cases h; exact h
    refine wpAny_bind (wpAny_nextOf_list_item (h1.extBut hs₁.extBut D.i1z) (hl1.extBut hs₁.extBut D.l1z) hx fun h₂ h1₂ hs₂ => wpAny_pure ?_)
    have hTO₂ : IsPair h₂ TO a b := hs₂.extBut _ _ D.TOi1 (hs₁.extBut _ _ D.TOz hTO)
    refine wpAny_bind (wpAny_seqItems hTO₂ rfl ?_)
    refine wpAny_bind (wpAny_updateSeq_pair hTO₂ fun h₃ hTO₃ hs₃ => ?_)
    refine wpAny_bind (wpAny_letGo (wpAny_pure ?_))
    refine wpAny_bind (wpAny_bind (wpAny_onRaise ?_))
    show wpAny _ _ (Builtin.SmallTypes.nextOf (.ref i2) >>= _) _ _ _
    refine wpAny_bind (nextOf_tuple_end hh (((h2.extBut hs₁.extBut D.i2z).extBut hs₂.extBut D.i12.symm).extBut hs₃.extBut D.TOi2.symm)
      (((hl2.extBut hs₁.extBut D.l2z).extBut hs₂.extBut D.l2i1).extBut hs₃.extBut D.l2TO) hy fun h₄ e hs₄ he => ?_)
    obtain ⟨oe, hoe, hce⟩ := he
    have hz₄ : IsZip h₄ z TI TO .ellipsis := hs₄ _ _ D.i2z.symm (hs₃.extBut _ _ D.TOz.symm (hs₂.extBut _ _ D.i1z.symm hz₁))
    have hez : e ≠ z := fun x => by subst x; rw [hz₄] at hoe; cases hoe; simp at hce
    refine wpAny_setField_rec hz₄ (by simp) fun h₅ _ hs₅ => hE h₅ e (fun c o c1 c2 c3 c4 x => hs₅.extBut _ _ c1 (hs₄ _ _ c4 (hs₃.extBut _ _ c2 (hs₂.extBut _ _ c3 (hs₁.extBut _ _ c1 x))))) ⟨oe, hs₅.extBut _ _ hez hoe, hce⟩

theorem pyNext_zipLT_item {z TI TO i1 i2 l1 l2 : Addr} {k1 k2 : Nat} {xs ys : Array Value} {x y a b : Value} {Q : Option Value → Shared → Prop} (D : ZipApart z TI TO i1 i2 l1 l2)
    (hz : IsZip s.heap z TI TO .none) (hTI : IsPair s.heap TI (.ref i1) (.ref i2)) (hTO : IsPair s.heap TO a b)
    (h1 : s.heap.IsListIter i1 l1 k1) (h2 : s.heap.IsTupleIter i2 l2 k2) (hl1 : s.heap.IsList l1 xs) (hl2 : s.heap.IsTuple l2 ys) (hx : xs[k1]? = some x) (hy : ys[k2]? = some y)
    (hQ : ∀ h', IsZip h' z TI TO (rawInt s.heap.objs.size) → IsPair h' TO x y → h'.IsListIter i1 l1 (k1 + 1) → h'.IsTupleIter i2 l2 (k2 + 1) → IsPair h' s.heap.objs.size x y → h'.objs.size = s.heap.objs.size + 1 →
      (∀ c o, c ≠ z → c ≠ TO → c ≠ i1 → c ≠ i2 → s.heap.get? c = some o → h'.get? c = some o) → Q (some (.ref s.heap.objs.size)) { s with heap := h' }) :
    wpAny (model prog w) A (pyNext (.ref z)) Q E s := by
  have hT : s.TypeIs (.ref z) "zip" := ⟨_, hz, rfl⟩
  unfold pyNext
  exact wpAny_bind (wpAny_attempt (wpAny_callSpecial?_slot (name := Str.ofString "__next__") hT F.slot_zip_next
    (wpAny_call_entry F.slot_zip_next hT F.entry_zip_next
      (zipLT_next_item D hz hTI hTO h1 h2 hl1 hl2 hx hy fun h' a1 a2 a3 a4 a5 a6 a7 => wpAny_pure (hQ h' a1 a2 a3 a4 a5 a6 a7)) (F.args_zip_next_1 _))))

theorem pyNext_zipLT_end {z TI TO i1 i2 l1 l2 : Addr} {k1 k2 : Nat} {xs ys : Array Value} {a b : Value} {Q : Option Value → Shared → Prop} (hh : A.handled = none) (D : ZipApart z TI TO i1 i2 l1 l2)
    (hz : IsZip s.heap z TI TO .none) (hTI : IsPair s.heap TI (.ref i1) (.ref i2)) (hTO : IsPair s.heap TO a b)
    (h1 : s.heap.IsListIter i1 l1 k1) (h2 : s.heap.IsTupleIter i2 l2 k2) (hl1 : s.heap.IsList l1 xs) (hl2 : s.heap.IsTuple l2 ys) (hend : xs[k1]? = none ∨ ys[k2]? = none)
    (hQ : ∀ h', (∀ c o, c ≠ z → c ≠ TO → c ≠ i1 → c ≠ i2 → s.heap.get? c = some o → h'.get? c = some o) → Q none { s with heap := h' }) : wpAny (model prog w) A (pyNext (.ref z)) Q E s := by
  have hT : s.TypeIs (.ref z) "zip" := ⟨_, hz, rfl⟩
  unfold pyNext
  refine wpAny_bind (wpAny_attempt (wpAny_callSpecial?_slot (name := Str.ofString "__next__") hT F.slot_zip_next
    (wpAny_call_entry F.slot_zip_next hT F.entry_zip_next (zipLT_next_end hh D hz hTI hTO h1 h2 hl1 hl2 hend fun h' e hk he => ?_) (F.args_zip_next_1 _))))
  obtain ⟨o, ho, hc⟩ := he
  refine wpAny_bind (wpAny_isInstance (T := "StopIteration") (b := true) ⟨o, ho, hc⟩ isSubtype_stop ?_)
  exact wpAny_pure (hQ _ hk)
end

abbrev zipLTH1 (h : Heap) (l1 : Addr) : Heap := h.push { cls := .type "list_iterator", data := .fields #[.ref l1, .int 0 0] }
abbrev zipLTH2 (h : Heap) (l1 l2 : Addr) : Heap := (zipLTH1 h l1).push { cls := .type "tuple_iterator", data := .fields #[.ref l2, .int 0 0] }
abbrev zipLTH3 (h : Heap) (l1 l2 : Addr) : Heap := (zipLTH2 h l1 l2).push { cls := .type "tuple", data := .seq #[.ref h.objs.size, .ref (zipLTH1 h l1).objs.size] }
abbrev zipLTH4 (h : Heap) (l1 l2 : Addr) : Heap := (zipLTH3 h l1 l2).push { cls := .type "tuple", data := .seq #[.none, .none] }
abbrev zipLTH5 (h : Heap) (l1 l2 : Addr) : Heap := (zipLTH4 h l1 l2).push { cls := .type "zip", data := .fields #[.none, .bool false, .bool false, .ref (zipLTH2 h l1 l2).objs.size, .ref (zipLTH3 h l1 l2).objs.size] }

theorem meets_zipLT_new (l1 l2 : Addr) (xs ys : Array Value) :
    Meets (Builtin.«zip.__new__» ⟨[.type "zip", .ref l1, .ref l2], []⟩) (fun _ R s => s.heap.IsList l1 xs ∧ s.heap.IsTuple l2 ys ∧
      R (.ok (.ret (.ref (zipLTH4 s.heap l1 l2).objs.size))) { s with heap := zipLTH5 s.heap l1 l2 }) :=
  .of_wp fun prog w A R s h => by
    obtain ⟨hp, g, d, tk, os⟩ := s; obtain ⟨hl1, hl2, h⟩ := h
    have hsub := sub_zip
    have hL1 : Heap.IsList (Shared.heap ⟨hp, g, d, tk, os⟩) l1 xs := hl1
    have hL2 : Heap.IsTuple (Shared.heap ⟨hp.push { cls := .type "list_iterator", data := .fields #[.ref l1, .int 0 0] }, g, d, tk, os⟩) l2 ys := Heap.IsTuple.push hl2 _
    wp_walk using wpAny_pyIter_list hL1, wpAny_pyIter_tuple hL2
    exact ⟨_, rfl, h⟩

section
variable {prog : Program} {w : World} {A : Around} {E : Value → Shared → Prop} {s : Shared}

theorem call_zipLT {l1 l2 : Addr} {xs ys : Array Value} {Q : Value → Shared → Prop} (hl1 : s.heap.IsList l1 xs) (hl2 : s.heap.IsTuple l2 ys)
    (h : ∀ h', IsZip h' (s.heap.objs.size + 4) (s.heap.objs.size + 2) (s.heap.objs.size + 3) .none → IsPair h' (s.heap.objs.size + 2) (.ref s.heap.objs.size) (.ref (s.heap.objs.size + 1)) →
      IsPair h' (s.heap.objs.size + 3) .none .none → h'.IsListIter s.heap.objs.size l1 0 → h'.IsTupleIter (s.heap.objs.size + 1) l2 0 → h'.objs.size = s.heap.objs.size + 5 →
      (∀ c o, s.heap.get? c = some o → h'.get? c = some o) → Q (.ref (s.heap.objs.size + 4)) { s with heap := h' }) :
    wpAny (model prog w) A (call (.type "zip") [.ref l1, .ref l2]) Q E s := by
  refine callType_new F.called_zip (by decide) (F.typeCall_zip_2 _ _) (F.newCall_zip_2 _ _) (fun obj => F.args_object_init_3 obj _ _) F.entry_zip_new
    (meets_zipLT_new l1 l2 xs ys) ⟨hl1, hl2, ?_⟩
  have z1 : (zipLTH1 s.heap l1).objs.size = s.heap.objs.size + 1 := Heap.size_push ..
  have z2 : (zipLTH2 s.heap l1 l2).objs.size = s.heap.objs.size + 2 := by rw [Heap.size_push, z1]
  have z3 : (zipLTH3 s.heap l1 l2).objs.size = s.heap.objs.size + 3 := by rw [Heap.size_push, z2]
  have z4 : (zipLTH4 s.heap l1 l2).objs.size = s.heap.objs.size + 4 := by rw [Heap.size_push, z3]
  have z5 : (zipLTH5 s.heap l1 l2).objs.size = s.heap.objs.size + 5 := by rw [Heap.size_push, z4]
  have g5 : (zipLTH5 s.heap l1 l2).get? (zipLTH4 s.heap l1 l2).objs.size = some _ := Heap.get?_push_size _ rfl
  have g4 : (zipLTH5 s.heap l1 l2).get? (zipLTH3 s.heap l1 l2).objs.size = some _ := Heap.get?_push_of_some _ (Heap.get?_push_size _ rfl)
  have g3 : (zipLTH5 s.heap l1 l2).get? (zipLTH2 s.heap l1 l2).objs.size = some _ := Heap.get?_push_of_some _ (Heap.get?_push_of_some _ (Heap.get?_push_size _ rfl))
  have g2 : (zipLTH5 s.heap l1 l2).get? (zipLTH1 s.heap l1).objs.size = some _ := Heap.get?_push_of_some _ (Heap.get?_push_of_some _ (Heap.get?_push_of_some _ (Heap.get?_push_size _ rfl)))
  have g1 : (zipLTH5 s.heap l1 l2).get? s.heap.objs.size = some _ := Heap.get?_push_of_some _ (Heap.get?_push_of_some _ (Heap.get?_push_of_some _ (Heap.get?_push_of_some _ (Heap.get?_push_size _ rfl))))
  show _ ∧ _
  rw [z2, z3, z4] at g5
  rw [z1, z2] at g3
  rw [z3] at g4
  rw [z1] at g2
  rw [z4]
  exact ⟨⟨_, g5, rfl⟩, h _ g5 g3 g4 ⟨_, g1, rfl, rfl⟩ ⟨_, g2, rfl, rfl⟩ z5 fun c o x =>
    Heap.get?_push_of_some _ (Heap.get?_push_of_some _ (Heap.get?_push_of_some _ (Heap.get?_push_of_some _ (Heap.get?_push_of_some _ x))))⟩
end
end RZ
namespace RZ
open PySem PySem.Spec PyProof.Rows L2
/-- the list at a, the tuple at b as they stand at each turn, the items in new pairs -/
def ItzLT (K : PySem.W.Frag) (a b : Addr) : It :=
  ⟨fun i H => ∃ (xs ys : List V) (x y : V), SqL K H a xs ∧ SqT K H b ys ∧ xs[i]? = some x ∧ ys[i]? = some y,
    fun i H v H' => ∃ T x y, v = .ref T ∧ H T = none ∧ H' = upd H T (.tup [x, y]) ∧ (∀ xs, SqL K H a xs → xs[i]? = some x) ∧ ∀ ys, SqT K H b ys → ys[i]? = some y,
    fun i H => ∃ xs ys : List V, SqL K H a xs ∧ SqT K H b ys ∧ (xs.length ≤ i ∨ ys.length ≤ i)⟩
theorem turn_zipLT {P : Program} {w : World} {K : PySem.W.Frag} {elts : List Expr} {kk : Nat} {tpos : Pos} {a b z TI TO i1 i2 : Addr} (D : ZipApart z TI TO i1 i2 a b) :
    Turn P w K (.Tuple elts kk tpos) (ItzLT K a b) [z, TI, TO, i1, i2] z (fun i h => IsZip h z TI TO .none ∧ IsPair h TI (.ref i1) (.ref i2) ∧ (∃ x y, IsPair h TO x y) ∧ h.IsListIter i1 a i ∧ h.IsTupleIter i2 b i) where
  mem := by simp
  obj := fun i h st c hc => by
    obtain ⟨hz, hTI, ⟨x, y, hTO⟩, ⟨o1, e1, _, d1⟩, ⟨o2, e2, _, d2⟩⟩ := st
    have e' : c = z ∨ c = TI ∨ c = TO ∨ c = i1 ∨ c = i2 := by simpa using hc
    rcases e' with q | q | q | q | q
    · rw [q]; exact ⟨_, hz, fun v q => nomatch q⟩
    · rw [q]; exact ⟨_, hTI, fun v q => nomatch q⟩
    · rw [q]; exact ⟨_, hTO, fun v q => nomatch q⟩
    · rw [q]; exact ⟨o1, e1, fun v q => by rw [d1] at q; cases q⟩
    · rw [q]; exact ⟨o2, e2, fun v q => by rw [d2] at q; cases q⟩
  keep := fun i h h' st k => by
    obtain ⟨hz, hTI, ⟨x, y, hTO⟩, h1, h2⟩ := st
    exact ⟨k z (by simp) _ hz, k TI (by simp) _ hTI, ⟨x, y, k TO (by simp) _ hTO⟩, h1.at fun o q => k i1 (by simp) o q, h2.at fun o q => k i2 (by simp) o q⟩
  item := by
    intro X hP hw hK hc i pins s σ H E I hf st hg
    subst hP hw hK
    obtain ⟨hz, hTI, ⟨x0, y0, hTO⟩, h1, h2⟩ := st
    obtain ⟨xs, ys, x, y, hqx, hqy, hx, hy⟩ := hg
    obtain ⟨its, rv, p, _⟩ := I.list hqx
    obtain ⟨its2, rv2, p2, _⟩ := I.tuple hqy
    obtain ⟨u, hu, ru⟩ := rv.get hx
    obtain ⟨u2, hu2, ru2⟩ := rv2.get hy
    have hzl : z < s.heap.objs.size := Heap.lt_size hz
    refine pyNext_zipLT_item D hz hTI hTO h1 h2 p.isList p2 (x := u) (y := u2) (by simpa using hu) (by simpa using hu2) fun h' z' TO' h1' h2' hT hsz hk => ?_
    refine ⟨_, rfl, wpAny_letOwnedTupleGo_zip (s := { s with heap := h' }) z' fun h'' z'' sb => ?_⟩
    have hT2 : h''.get? s.heap.objs.size = some { cls := .type "tuple", data := .seq #[u, u2] } := (sb.2 _ (Nat.ne_of_gt hzl)).trans hT
    have new : ObjOk X.prog X.w (upd H s.heap.objs.size (.tup [x, y])) h'' s.heap.objs.size (.tup [x, y]) :=
      ⟨by show 2 ≤ sizeLine; decide, [u, u2], .cons ru (.cons ru2 .nil), ⟨_, hT2, rfl, _, rfl⟩⟩
    have I1 : Inv X pins σ (upd H s.heap.objs.size (.tup [x, y])) { s with heap := h'' } :=
      I.turnedNew (t' := s.toks) (ch := [z, TI, TO, i1, i2]) (fun c o hb q => (sb.2 c (fun q' => hb (by simp [q']))).trans (hk c o (fun q' => hb (by simp [q'])) (fun q' => hb (by simp [q'])) (fun q' => hb (by simp [q'])) (fun q' => hb (by simp [q'])) q)) hf (Nat.le_refl _) new
    refine ⟨.ref s.heap.objs.size, _, I1, rfl, ⟨_, x, y, rfl, I.hok.fresh (Nat.le_refl _), rfl, fun l hl => by rw [I.list_inj hl hqx]; exact hx, fun l hl => by rw [I.tuple_inj hl hqy]; exact hy⟩, ⟨z'', ?_, ⟨u, u2, ?_⟩, ?_, ?_⟩, fun c hcm => ?_⟩
    · exact (sb.2 _ D.TIz).trans (hk _ _ D.TIz D.TITO D.TIi1 D.TIi2 hTI)
    · exact (sb.2 _ D.TOz).trans TO'
    · exact h1'.at fun o q => (sb.2 _ D.i1z).trans q
    · exact h2'.at fun o q => (sb.2 _ D.i2z).trans q
    · have hlt : c < s.heap.objs.size := by
        have e' : c = z ∨ c = TI ∨ c = TO ∨ c = i1 ∨ c = i2 := by simpa using hcm
        rcases e' with q | q | q | q | q
        · rw [q]; exact hzl
        · rw [q]; exact Heap.lt_size hTI
        · rw [q]; exact Heap.lt_size hTO
        · rw [q]; obtain ⟨_, e1, _⟩ := h1; exact Heap.lt_size e1
        · rw [q]; obtain ⟨_, e2, _⟩ := h2; exact Heap.lt_size e2
      rw [upd_ne (Nat.ne_of_lt hlt)]
      exact (hf c hcm).1
  done := by
    intro X hP hw hK hc i pins s σ H E I hf st hg
    subst hP hw hK
    obtain ⟨hz, hTI, ⟨x0, y0, hTO⟩, h1, h2⟩ := st
    obtain ⟨xs, ys, hqx, hqy, hend⟩ := hg
    obtain ⟨its, rv, p, _⟩ := I.list hqx
    obtain ⟨its2, rv2, p2, _⟩ := I.tuple hqy
    have l1 := rv.length
    have l2 := rv2.length
    have he : its.toArray[i]? = none ∨ its2.toArray[i]? = none := by
      rcases hend with q | q
      · exact .inl (by simp; omega)
      · exact .inr (by simp; omega)
    exact pyNext_zipLT_end (I.ok.hd hc) D hz hTI hTO h1 h2 p.isList p2 he fun h' hk => ⟨rfl, I.turnedL (t' := s.toks) (ch := [z, TI, TO, i1, i2]) (fun c o hb q =>
      hk c o (fun q' => hb (by simp [q'])) (fun q' => hb (by simp [q'])) (fun q' => hb (by simp [q'])) (fun q' => hb (by simp [q'])) q) hf⟩
  self := fun A i s Q E st h => wpAny_pyIter_zip st.1 h

def iZipLT (K : PySem.W.Frag) (ta : TA) : TI := fun σ H R => ta σ H fun vs H1 => ∃ a b xs ys, vs = [.ref a, .ref b] ∧ SqL K H1 a xs ∧ SqT K H1 b ys ∧ R (ItzLT K a b) H1
theorem pi_zipLT {X : Cx} {e e2 : Expr} {ta : TA} {p pos tpos : Pos} {elts : List Expr} {kk : Nat} (hg : Gl X "zip") (hm : X.mg "zip" = none) (ha : PA X [e, e2] ta)
    (hs : starEach [e, e2] X.env = (false, eval e X.env) :: starEach [e2] X.env := by rfl) (hpl : (backTo pos (starEach [e2] X.env)).any (·.1) = false := by rfl) :
    PI X (.Tuple elts kk tpos) (.Call (.Name "zip" p) [e, e2] [] pos) (iZipLT X.K ta) := by
  refine ⟨fun pins s σ H R I h => ?_⟩
  refine Call_ (ld_blt I hg hm PyProof.Rows.boot_zip (PyProof.Rows.callWith_type1 (thn (ha.run pos pins s σ H _ I h) fun us s1 ⟨vs, H1, I1, r1, q1⟩ => ?_) hs hpl))
  obtain ⟨a, b, xs, ys, ex, q1⟩ := q1
  subst ex
  cases r1 with
  | cons r rr =>
    cases rr with
    | cons r' rr =>
      cases rr
      cases r
      cases r'
      have fresh5 : ∀ c, c ∈ [s1.heap.objs.size + 4, s1.heap.objs.size + 2, s1.heap.objs.size + 3, s1.heap.objs.size, s1.heap.objs.size + 1] → FpOk X pins H1 c := fun c hcm => by
        have e' : c = s1.heap.objs.size + 4 ∨ c = s1.heap.objs.size + 2 ∨ c = s1.heap.objs.size + 3 ∨ c = s1.heap.objs.size ∨ c = s1.heap.objs.size + 1 := by simpa using hcm
        have hle : s1.heap.objs.size ≤ c := by
          rcases e' with z | z | z | z | z
          · rw [z]; exact Nat.le_add_right _ _
          · rw [z]; exact Nat.le_add_right _ _
          · rw [z]; exact Nat.le_add_right _ _
          · rw [z]; exact Nat.le_refl _
          · rw [z]; exact Nat.le_add_right _ _
        exact I1.fpOk hle (I1.hok.fresh hle)
      obtain ⟨hqx, hqy, q⟩ := q1
      obtain ⟨its, rv, p1, _⟩ := I1.list hqx
      obtain ⟨its2, rv2, p2, _⟩ := I1.tuple hqy
      obtain ⟨o2, ho2, _⟩ := id p2
      refine call_zipLT p1.isList (show s1.heap.IsTuple b its2.toArray from p2) fun h' hz hTI hTO h1 h2 hsz hk => wpAny_pyIter_zip hz ?_
      have I2 : Inv X pins σ H1 { s1 with heap := h' } := I1.kept (t' := s1.toks) hk
      exact ⟨s1.heap.objs.size + 4, [s1.heap.objs.size + 4, s1.heap.objs.size + 2, s1.heap.objs.size + 3, s1.heap.objs.size, s1.heap.objs.size + 1], _, _, H1, rfl, I2, turn_zipLT (PySem.W.ktu_apart s1.heap.objs.size a b p1.lt (Heap.lt_size ho2)), ⟨hz, hTI, ⟨_, _, hTO⟩, h1, h2⟩, fresh5, q⟩

end RZ

end
section
set_option Elab.async false
set_option linter.all false
set_option maxRecDepth 100000
set_option maxHeartbeats 1000000
/-! EwV: more typed words. -/
namespace Ew
open PySem PySem.Spec PyProof.Rows L2
theorem passE0 {X : Cx} {σ : L2.St} : PassesAt (L2.CX X.prog X.w) X σ E0 := fun pins H s e s' I c => passL pins σ H s e s' I c
section
variable {W : Wd} {Γ Γ' : Gam} {K : PySem.W.Frag} {T U A C P : Typ} {Ts Us : List Typ} {ds es : List PyData} {d : PyData} {ta : TA} {te tb : TE} {g : TG} {vs : List Nat} {i j : Int}
theorem RpA.rep {M : Addr → Prop} {H : Hp} {vs : List V} {ds : List PyData} (h : RpA M K H vs ds) : ∀ n : Nat, RpA M K H (List.replicate n vs).flatten (List.replicate n ds).flatten
  | 0 => .nil
  | n + 1 => by
    rw [List.replicate_succ, List.replicate_succ, List.flatten_cons, List.flatten_cons]
    exact h.append (RpA.rep h n)
theorem TysV.rep {M B : Addr → Prop} {H : Hp} {vs : List V} (h : TysV M B Ts vs H) : ∀ n : Nat, TysV M B (List.replicate n Ts).flatten (List.replicate n vs).flatten H
  | 0 => True.intro
  | n + 1 => by
    rw [List.replicate_succ, List.replicate_succ, List.flatten_cons, List.flatten_cons]
    exact h.append (TysV.rep h n)
theorem len_rep {α : Type} (l : List α) (n : Nat) : (List.replicate n l).flatten.length = n * l.length := by
  induction n with
  | zero => simp
  | succ n ih => rw [List.replicate_succ, List.flatten_cons, List.length_append, ih]; rw [Nat.succ_mul]; omega
/-- list * int -/
theorem opt_repL (h0 : -1000 ≤ j) (h1 : j ≤ 1000) (hz : Ts.length ≤ 1000) : OpT W rRep (lstT Ts) (dt K (.int j)) (lstT (List.replicate j.toNat Ts).flatten) := fun u v H c hu hv Q q => by
  cases hv
  obtain ⟨a, xs, rfl, ha, h2, h3⟩ := hu
  refine ⟨a, j, xs, rfl, rfl, h2, by omega, by omega, ?_, fun p hp => q _ _ (Ex.new hp) ⟨p, _, rfl, c.nm hp, upd_same, (h3.rep _).up (Ex.new (B := W.B) hp).toW⟩⟩
  have e := h3.length
  refine sz_le ?_
  have : xs.length * j.toNat ≤ 1000 * 1000 := Nat.mul_le_mul (by omega) (by omega)
  omega
/-- tuple * int, not empty, at least 2 -/
theorem opt_repT (h0 : 2 ≤ j) (h1 : j ≤ 1000) (hn : ds ≠ []) (hz : ds.length ≤ 1000) : OpT W (rRepT K) (dt K (.tuple ds)) (dt K (.int j)) (dt K (.tuple (List.replicate j.toNat ds).flatten)) := fun u v H c hu hv Q q => by
  cases hv
  cases hu with
  | @tup a xs _ h2 h3 =>
    have e := h3.length
    refine ⟨a, j, xs, rfl, rfl, h2, fun z => hn ?_, h0, h1, by omega, fun p hp => q _ _ (Ex.new hp) (.tup (SqT.of upd_same) (RpA.up (Ex.new (B := W.B) hp).toW (h3.rep _)))⟩
    subst z
    exact List.eq_nil_of_length_eq_zero (by simpa using e.symm)
/-! ### a list and a tuple together -/
theorem walk_zipLT {a b : Addr} {xs ys : List V} {n : Nat} (hn : n = min xs.length ys.length) : Walk (RZ.ItzLT K a b) n (fun H => SqL K H a xs ∧ SqT K H b ys) (YPair (fun i => xs[i]?) (fun i => ys[i]?)) := by
  subst hn
  refine ⟨fun i _ hi q => ?_, fun _ q => ⟨xs, ys, q.1, q.2, by omega⟩, fun i H v H' _ q y => ?_⟩
  · have h1 : i < xs.length := by omega
    have h2 : i < ys.length := by omega
    exact ⟨xs, ys, xs[i], ys[i], q.1, q.2, by simp [h1], by simp [h2]⟩
  · obtain ⟨T, x, z, h1, h2, h3, h4, h5⟩ := y
    exact ⟨T, x, z, h1, h2, h3, h4 xs q.1, h5 ys q.2⟩
theorem tyi_zipLT (h : TyA W Γ ta [lstT Ts, tupT K Us]) : TyI W Γ (RZ.iZipLT K ta) ((Ts.zip Us).map fun p => tupT K [p.1, p.2]) := fun σ H c g R q => h σ H c g _ fun us H1 e hu => by
  obtain ⟨v, w, rfl, ⟨a, xs, rfl, h0, h2, h3⟩, ⟨b, ys, rfl, h4, h5⟩⟩ := hu.two
  refine ⟨a, b, xs, ys, rfl, SqL.of h2, h4, q _ H1 e ⟨fun H => SqL K H a xs ∧ SqT K H b ys, YPair (fun i => xs[i]?) (fun i => ys[i]?), ?_, ⟨SqL.of h2, h4⟩, fun M' m => ⟨fun Ha Hb f z => ⟨f.sqL (m.nm h2 h0) z.1, f.sqT z.2⟩, fun i Ha x Hb T hT f z y => ?_⟩⟩⟩
  · refine walk_zipLT ?_
    rw [List.length_map, List.length_zip]
    exact zip_len h3.length h5.length
  · obtain ⟨Tp, x0, y0, rfl, hn, rfl, ex, ey⟩ := y
    obtain ⟨A, C, q1, q2, rfl⟩ := zip_map_get hT
    obtain ⟨x1, e1, r1⟩ := (m.tys h3).get q1
    obtain ⟨y1, e2, r2⟩ := (m.tys h5).get q2
    have ex' := e1.symm.trans ex
    cases ex'
    have ey' := e2.symm.trans ey
    cases ey'
    exact ⟨Ex.new hn, Tp, _, rfl, SqT.of upd_same, Typ.up _ (f.trans ((Ex.new (B := W.B) hn).toM m.sub)) r1, Typ.up _ (f.trans ((Ex.new (B := W.B) hn).toM m.sub)) r2, True.intro⟩
theorem tyi_zipLTA {β γ : Type} {as : List β} {bs : List γ} {f : β → PyData} {h : γ → PyData} (ha : Ty W Γ te (dt K (.list (as.map f)))) (hb : Ty W Γ tb (dt K (.tuple (bs.map h)))) :
    TyI W Γ (RZ.iZipLT K (tCons te (tCons tb tNil))) ((as.zip bs).map fun p => tupT K [dt K (f p.1), dt K (h p.2)]) := by
  have z := tyi_zipLT (W := W) (Γ := Γ) (K := K) (Ts := (as.map f).map (dt K)) (Us := (bs.map h).map (dt K)) (tya_cons (ha.sub fun _ _ _ => data_lstT) (tya_cons (hb.sub fun _ _ _ => data_tupT) tya_nil))
  have e : ((((as.map f).map (dt K)).zip ((bs.map h).map (dt K))).map fun p => tupT K [p.1, p.2]) = ((as.zip bs).map fun p => tupT K [dt K (f p.1), dt K (h p.2)]) := by
    rw [List.map_map, List.map_map, List.zip_map, List.map_map]
    rfl
  rw [e] at z
  exact z
theorem opt_repI (h0 : -1000 ≤ j) (h1 : j ≤ 1000) (hz : ds.length ≤ 1000) : OpT W rRep (dt K (.list ds)) (dt K (.int j)) (dt K (.list (List.replicate j.toNat ds).flatten)) := fun u v H c hu hv Q q =>
  opt_repL (Ts := ds.map (dt K)) h0 h1 (by simpa using hz) u v H c (data_lstT hu) hv Q fun w H1 e z => q w H1 e (lstT_data (by
    have e2 : (List.replicate j.toNat (ds.map (dt K))).flatten = ((List.replicate j.toNat ds).flatten).map (dt K) := by rw [List.map_flatten, List.map_replicate]
    rw [e2] at z; exact z))
end
/-! ### words, K told -/
section
variable {X : Cx} {e : Expr} {es : List Expr} {t : TA} {p pos : Pos} {te : TE}
theorem k_len {K : PySem.W.Frag} (hK : X.K = K) (m : X.mg "len" = none) (ha : PA X (e :: es) t) (hg : Gl X "len" := by rfl) (he : starEach (e :: es) X.env = (false, eval e X.env) :: starEach es X.env := by rfl) (hpl : (backTo pos (starEach es X.env)).any (·.1) = false := by rfl) :
    PE X (.Call (.Name "len" p) (e :: es) [] pos) (tCB (rLen K) t) := hK ▸ bi_len m ha hg he hpl
theorem k_isi {K : PySem.W.Frag} (hK : X.K = K) (m : X.mg "isinstance" = none) (ha : PA X (e :: es) t) (hg : Gl X "isinstance" := by rfl) (he : starEach (e :: es) X.env = (false, eval e X.env) :: starEach es X.env := by rfl) (hpl : (backTo pos (starEach es X.env)).any (·.1) = false := by rfl) :
    PE X (.Call (.Name "isinstance" p) (e :: es) [] pos) (tCB (rIsi K) t) := hK ▸ bi_isi m ha hg he hpl
theorem k_isi2 {K : PySem.W.Frag} (hK : X.K = K) (m : X.mg "isinstance" = none) (ha : PA X (e :: es) t) (hg : Gl X "isinstance" := by rfl) (he : starEach (e :: es) X.env = (false, eval e X.env) :: starEach es X.env := by rfl) (hpl : (backTo pos (starEach es X.env)).any (·.1) = false := by rfl) :
    PE X (.Call (.Name "isinstance" p) (e :: es) [] pos) (tCB (rIsiT K) t) := hK ▸ bi_isi2 m ha hg he hpl
theorem k_tuple {K : PySem.W.Frag} (hK : X.K = K) (m : X.mg "tuple" = none) (ha : PA X (e :: es) t) (hg : Gl X "tuple" := by rfl) (he : starEach (e :: es) X.env = (false, eval e X.env) :: starEach es X.env := by rfl) (hpl : (backTo pos (starEach es X.env)).any (·.1) = false := by rfl) :
    PE X (.Call (.Name "tuple" p) (e :: es) [] pos) (tCB (rTupOf K) t) := hK ▸ bi_tuple m ha hg he hpl
theorem k_list {K : PySem.W.Frag} (hK : X.K = K) (m : X.mg "list" = none) (ha : PA X (e :: es) t) (hg : Gl X "list" := by rfl) (he : starEach (e :: es) X.env = (false, eval e X.env) :: starEach es X.env := by rfl) (hpl : (backTo pos (starEach es X.env)).any (·.1) = false := by rfl) :
    PE X (.Call (.Name "list" p) (e :: es) [] pos) (tCB (rLstOf K) t) := hK ▸ bi_list m ha hg he hpl
theorem k_sum {K : PySem.W.Frag} (hK : X.K = K) (m : X.mg "sum" = none) (ha : PA X (e :: es) t) (hc : X.calm = true := by rfl) (hg : Gl X "sum" := by rfl) (he : starEach (e :: es) X.env = (false, eval e X.env) :: starEach es X.env := by rfl) (hpl : (backTo pos (starEach es X.env)).any (·.1) = false := by rfl) :
    PE X (.Call (.Name "sum" p) (e :: es) [] pos) (tCB (rSum K) t) := hK ▸ bi_sum m ha hc hg he hpl
theorem k_all {K : PySem.W.Frag} (hK : X.K = K) (m : X.mg "all" = none) (ha : PA X (e :: es) t) (hc : X.calm = true := by rfl) (hg : Gl X "all" := by rfl) (he : starEach (e :: es) X.env = (false, eval e X.env) :: starEach es X.env := by rfl) (hpl : (backTo pos (starEach es X.env)).any (·.1) = false := by rfl) :
    PE X (.Call (.Name "all" p) (e :: es) [] pos) (tCB (rAll K) t) := hK ▸ bi_all m ha hc hg he hpl
theorem k_max1 {K : PySem.W.Frag} (hK : X.K = K) (m : X.mg "max" = none) (ha : PA X (e :: es) t) (hc : X.calm = true := by rfl) (hg : Gl X "max" := by rfl) (he : starEach (e :: es) X.env = (false, eval e X.env) :: starEach es X.env := by rfl) (hpl : (backTo pos (starEach es X.env)).any (·.1) = false := by rfl) :
    PE X (.Call (.Name "max" p) (e :: es) [] pos) (tCB (rMax K) t) := hK ▸ bi_max1 m ha hc hg he hpl
theorem k_add {K : PySem.W.Frag} (hK : X.K = K) : OpR X (binaryOp .Add) (rAddA K) := hK ▸ op_addA
theorem k_eq {K : PySem.W.Frag} (hK : X.K = K) (hu : X.A.units + 64 < cLine) : OpR X (compareOp .Eq) (rEqA K) := hK ▸ op_eqA hu
theorem k_ne {K : PySem.W.Frag} (hK : X.K = K) (hu : X.A.units + 64 < cLine) : OpR X (compareOp .NotEq) (rNeA K) := hK ▸ op_neA hu
theorem k_repT {K : PySem.W.Frag} (hK : X.K = K) : OpR X (binaryOp .Mult) (rRepT K) := hK ▸ op_repT
theorem k_ix {K : PySem.W.Frag} (hK : X.K = K) : IxR X (rIx K) := hK ▸ ix_seq
theorem k_slT {K : PySem.W.Frag} (hK : X.K = K) : SlR X (rSlT K) := hK ▸ sl_tup
theorem k_slL {K : PySem.W.Frag} (hK : X.K = K) : SlR X (rSlL K) := hK ▸ sl_list
theorem k_itup {K : PySem.W.Frag} (hK : X.K = K) {tg l : Expr} {tl : TE} (hl : PE X l tl) : PI X tg l (iTup K tl) := hK ▸ pi_tup hl
theorem k_ilist {K : PySem.W.Frag} (hK : X.K = K) {tg l : Expr} {tl : TE} (hl : PE X l tl) : PI X tg l (iList K tl) := hK ▸ pi_list hl
theorem k_ienum {K : PySem.W.Frag} (hK : X.K = K) {tpos : Pos} {elts : List Expr} {kk : Nat} (hm : X.mg "enumerate" = none) (ha : PA X [e] t) (hg : Gl X "enumerate" := by rfl) (hs : starEach [e] X.env = [(false, eval e X.env)] := by rfl) :
    PI X (.Tuple elts kk tpos) (.Call (.Name "enumerate" p) [e] [] pos) (iEnum K t) := hK ▸ pi_enum hg hm ha hs
theorem k_izip {K : PySem.W.Frag} (hK : X.K = K) {e2 : Expr} {tpos : Pos} {elts : List Expr} {kk : Nat} (hm : X.mg "zip" = none) (ha : PA X [e, e2] t) (hg : Gl X "zip" := by rfl) (hs : starEach [e, e2] X.env = (false, eval e X.env) :: starEach [e2] X.env := by rfl) (hpl : (backTo pos (starEach [e2] X.env)).any (·.1) = false := by rfl) :
    PI X (.Tuple elts kk tpos) (.Call (.Name "zip" p) [e, e2] [] pos) (RZ.iZipA K t) := hK ▸ RZ.pi_zipA hg hm ha hs hpl
theorem k_izipLT {K : PySem.W.Frag} (hK : X.K = K) {e2 : Expr} {tpos : Pos} {elts : List Expr} {kk : Nat} (hm : X.mg "zip" = none) (ha : PA X [e, e2] t) (hg : Gl X "zip" := by rfl) (hs : starEach [e, e2] X.env = (false, eval e X.env) :: starEach [e2] X.env := by rfl) (hpl : (backTo pos (starEach [e2] X.env)).any (·.1) = false := by rfl) :
    PI X (.Tuple elts kk tpos) (.Call (.Name "zip" p) [e, e2] [] pos) (RZ.iZipLT K t) := hK ▸ RZ.pi_zipLT hg hm ha hs hpl
theorem k_gtup {K : PySem.W.Frag} (hK : X.K = K) {ts : List Expr} {k : Nat} {u : TGs} {n : Nat} (h : PGs X ts u) (hc : X.calm = true := by rfl) (hn : (assignEach ts X.env).length = n := by rfl) (hst : (assignEach ts X.env).findIdx? (·.1) = none := by rfl) : PG X (.Tuple ts k pos) (gTup K n u) := hK ▸ pg_tup hc h hn hst
theorem k_gunl {K : PySem.W.Frag} (hK : X.K = K) {ts : List Expr} {k : Nat} {u : TGs} {n : Nat} (h : PGs X ts u) (hc : X.calm = true := by rfl) (hn : (assignEach ts X.env).length = n := by rfl) (hst : (assignEach ts X.env).findIdx? (·.1) = none := by rfl) : PG X (.Tuple ts k pos) (gUnl K n u) := hK ▸ pg_unl hc h hn hst
end
end Ew

end
section
set_option Elab.async false
set_option linter.all false
set_option maxRecDepth 100000
set_option maxHeartbeats 1000000
/-! EwU: lines and tables of ints as data; their equality; more typed words. -/
namespace Ew
open PySem PySem.Spec PyProof.Rows L2
def sizeD : PyData → Nat
  | .tuple l => l.length
  | .list l => l.length
  | .str s => s.length
  | .dict l => l.length
  | _ => 0
def intsD (l : List Int) : PyData := .tuple (l.map .int)
def linD (l : List Int) : PyData := .list (l.map .int)
def tabD (m : List (List Int)) : PyData := .tuple (m.map intsD)
def sm (v : Int) : Prop := v.natAbs < 2 ^ 4096
theorem sm_log {v : Int} (h : sm v) : v.natAbs.log2 < 5000 := by
  by_cases z : v.natAbs = 0
  · rw [z]; decide
  · have := (Nat.log2_lt z).mpr h
    omega
theorem sm_mul {a b : Int} (h : sm a) (k : sm b) : L2.CMulW a b := by
  have h1 := sm_log h
  have h2 := sm_log k
  unfold L2.CMulW
  omega
def sml (l : List Int) : Prop := l.length ≤ 1000 ∧ ∀ v ∈ l, sm v
def smt (m : List (List Int)) : Prop := m.length ≤ 1000 ∧ ∀ l ∈ m, sml l
def isWholeD : PyData → Bool
  | .int _ => true
  | _ => false
/-! ### equality of data -/
theorem lay_whole : ∀ {ds : List PyData}, ds.all isWholeD = true → PyData.canLayAll0 ds = true ∧ PyData.depthAll ds = 0
  | [], _ => ⟨rfl, rfl⟩
  | d :: ds, h => by
    rw [List.all_cons, Bool.and_eq_true] at h
    obtain ⟨h1, h2⟩ := h
    obtain ⟨k1, k2⟩ := lay_whole h2
    cases d <;> simp [isWholeD] at h1
    exact ⟨by simp [PyData.canLayAll0, PyData.canLay0, k1], by simp [PyData.depthAll, PyData.depth, k2]⟩
theorem shaped_whole {ds : List PyData} (h : ds.all isWholeD = true) : SeqAt.shaped (.tuple ds) = true := by
  obtain ⟨k1, k2⟩ := lay_whole h
  simp [SeqAt.shaped, PyData.canLay0, PyData.depth, k1, k2]
theorem all_whole (l : List Int) : (l.map PyData.int).all isWholeD = true := by
  rw [List.all_map]
  exact List.all_eq_true.mpr fun _ _ => rfl
theorem shaped_ints (l : List Int) : SeqAt.shaped (intsD l) = true := shaped_whole (all_whole l)
theorem lay_tab : ∀ m : List (List Int), PyData.canLayAll0 (m.map intsD) = true ∧ PyData.depthAll (m.map intsD) ≤ 1
  | [] => ⟨rfl, by simp [PyData.depthAll]⟩
  | l :: m => by
    obtain ⟨k1, k2⟩ := lay_tab m
    obtain ⟨h1, h2⟩ := lay_whole (all_whole l)
    refine ⟨?_, ?_⟩
    · rw [List.map_cons, PyData.canLayAll0, k1, intsD, PyData.canLay0, h1]; rfl
    · rw [List.map_cons, PyData.depthAll, intsD, PyData.depth, h2]
      exact Nat.max_le.mpr ⟨Nat.le_refl _, k2⟩
theorem shaped_tab (m : List (List Int)) : SeqAt.shaped (tabD m) = true := by
  obtain ⟨k1, k2⟩ := lay_tab m
  unfold SeqAt.shaped tabD
  rw [PyData.canLay0, k1, PyData.depth, Bool.true_and]
  exact decide_eq_true (by omega)
theorem eqv_nil (ds : List PyData) : PyData.eqv (.tuple ds) (.tuple []) = decide (ds.length = 0) := by
  cases ds <;> simp [PyData.eqv, PyData.eqvAll]
theorem eqv_nilL (ds : List PyData) : PyData.eqv (.list ds) (.list []) = decide (ds.length = 0) := by
  cases ds <;> simp [PyData.eqv, PyData.eqvAll]
theorem eqvAll_ints : ∀ a b : List Int, PyData.eqvAll (a.map .int) (b.map .int) = decide (a = b)
  | [], [] => by simp [PyData.eqvAll]
  | [], b :: bs => by simp [PyData.eqvAll]
  | a :: as, [] => by simp [PyData.eqvAll]
  | a :: as, b :: bs => by
    rw [List.map_cons, List.map_cons, PyData.eqvAll, eqvAll_ints as bs, PyData.eqv]
    by_cases h1 : a = b <;> by_cases h2 : as = bs <;> simp [h1, h2]
theorem eqv_ints (a b : List Int) : PyData.eqv (intsD a) (intsD b) = decide (a = b) := by
  rw [intsD, intsD, PyData.eqv, eqvAll_ints]
theorem eqvAll_tab : ∀ a b : List (List Int), PyData.eqvAll (a.map intsD) (b.map intsD) = decide (a = b)
  | [], [] => by simp [PyData.eqvAll]
  | [], b :: bs => by simp [PyData.eqvAll]
  | a :: as, [] => by simp [PyData.eqvAll]
  | a :: as, b :: bs => by
    rw [List.map_cons, List.map_cons, PyData.eqvAll, eqvAll_tab as bs, eqv_ints]
    by_cases h1 : a = b <;> by_cases h2 : as = bs <;> simp [h1, h2]
theorem eqv_tab (a b : List (List Int)) : PyData.eqv (tabD a) (tabD b) = decide (a = b) := by
  rw [tabD, tabD, PyData.eqv, eqvAll_tab]
section
variable {W : Wd} {Γ Γ' : Gam} {K : PySem.W.Frag} {T U A C P : Typ} {Ts Us : List Typ} {ds es : List PyData} {d : PyData} {ta tc : TA} {te tb td : TE} {g : TG} {vs : List Nat} {i j : Int} {r r' : R2} {a b : Bool}
theorem ty_chain {ta tb tc : TE} (h1 : Ty W Γ ta A) (h2 : Ty W Γ tb C) (ho : OpT W r A C (dt K (.bool a))) (h3 : a = true → Ty W Γ tc P) (ho' : OpT W r' C P (dt K (.bool b))) : Ty W Γ (tChain r r' ta tb tc) (dt K (.bool (a && b))) := fun σ H c g Q q =>
  h1 σ H c g _ fun u H1 e1 hu => h2 σ H1 (c.up e1) (g.up e1.toW) _ fun v H2 e2 hv => ho u v H2 (c.up (e1.trans e2)) (A.up e2.toW hu) hv _ fun z H3 e3 hz => by
    have e13 := e1.trans (e2.trans e3)
    cases hz
    refine ⟨a, rfl, ?_⟩
    cases a with
    | true =>
      rw [if_pos rfl]
      exact h3 rfl σ H3 (c.up e13) (g.up e13.toW) _ fun w H4 e4 hw => ho' v w H4 (c.up (e13.trans e4)) (C.up (e3.trans e4).toW hv) hw Q fun z H5 e5 hz => q z H5 (e13.trans (e4.trans e5)) (by rw [Bool.true_and]; exact hz)
    | false =>
      rw [if_neg Bool.false_ne_true]
      exact q _ H3 e13 (.bl _)
theorem opt_ix0 : OpT W (rIx K) (dt K (.tuple (d :: ds))) (dt K (.int 0)) (dt K d) := opt_ixT (i := 0) (atI_nat (j := 0) rfl)
theorem opt_ixTN {n : Nat} (e : ds[n]? = some d) : OpT W (rIx K) (dt K (.tuple ds)) (dt K (.int (n : Nat))) (dt K d) := opt_ixT (atI_nat e)
theorem opt_eqNil (h : ds.all isWholeD = true) : OpT W (rEqA K) (dt K (.tuple ds)) (dt K (.tuple [])) (dt K (.bool (decide (ds.length = 0)))) := by
  have z := opt_eqD (W := W) (K := K) (shaped_whole h) (show SeqAt.shaped (.tuple []) = true from rfl)
  rw [eqv_nil] at z
  exact z
theorem opt_eqT {a b : List (List Int)} : OpT W (rEqA K) (dt K (tabD a)) (dt K (tabD b)) (dt K (.bool (decide (a = b)))) := by
  have z := opt_eqD (W := W) (K := K) (shaped_tab a) (shaped_tab b)
  rw [eqv_tab] at z
  exact z
/-- what is empty is the empty list -/
theorem opt_eqL0 : OpT W (rEqA K) (dt K (.list [])) (dt K (.list [])) (dt K (.bool true)) := (opt_eqD (W := W) (K := K) (d := .list []) (e := .list []) rfl rfl)
end
end Ew

end
section
set_option Elab.async false
set_option linter.all false
set_option maxRecDepth 100000
set_option maxHeartbeats 1000000
/-! EwT: defs that hand back a new list; boxes; lists of unknowns. -/
namespace Ew
open PySem PySem.Spec PyProof.Rows L2
/-- a new list of values of the types Ts x -/
def spL {α : Type} (C : α → Prop) (A : α → List Typ) (Ts : α → List Typ) : Sp := fun vs H Q _ => ∃ (M B : Addr → Prop) (x : α), (∀ a, B a → M a) ∧ (∀ a, B a → BoxAt H a) ∧ (∀ a, M a → H a ≠ none) ∧ C x ∧ TysV M B (A x) vs H ∧
  ∀ p xs H', Ex B H H' → H p = none → H' p = some (.lst xs) → TysV M B (Ts x) xs H' → Q (.ref p) H'
def rL (W : Wd) (Ts : List Typ) : V → Hp → Prop := fun v H => ∃ p xs, v = .ref p ∧ Ex W.B W.H0 H ∧ W.H0 p = none ∧ H p = some (.lst xs) ∧ TysV W.M W.B Ts xs H
section
variable {W : Wd} {Γ : Gam} {tl : TA} {te : TE} {α : Type} {C : α → Prop} {A Ts : α → List Typ} {E : XK}
theorem tyl_call (x : α) (hC : C x) (h : TyA W Γ tl (A x)) : TyL W Γ (tCall (spL C A Ts) [] E tl) (Ts x) := fun σ H c g Q q =>
  h σ H c g _ fun vs H1 e1 hv => ⟨W.M, W.B, x, W.sub, (c.up e1).box, (c.up e1).al, hC, by rw [List.append_nil]; exact hv, fun p xs H2 e2 hp h2 h3 => q p xs H2 (e1.trans e2) (e1.free hp) h2 h3⟩
theorem tys_retL {Us : List Typ} {Bk Ct : Sx → Hp → Prop} (h : TyL W Γ te Us) : TyS W Γ (tRet te) noN (rL W Us) Bk Ct := fun σ H c g D _ dr _ _ => h σ H c g _ fun p xs H1 e hp h1 h2 => dr _ H1 ⟨p, xs, rfl, (c.up e).ex, c.ex.free hp, h1, h2⟩
variable {P : Program} {w : World} {K : PySem.W.Frag} {mg : Str → Option Value} {base : Heap}
theorem fn_tyL {x qual : Str} {st : Stmt} {f : Addr} {fd : FuncData} {N ps : List Str} {k : Nat} (F : Fun K x qual st f fd) (S : FnScope N ps (defScope st))
    (len : ∀ x, C x → (A x).length = ps.length)
    (hbody : ∀ (cdv : Value) (Ar : Around) (outer : List Env) (s : Shared) (H : Hp) (E : XK), Room k (Ar.deeper (envOfC qual (defScope st) s.heap.objs.size f cdv)) →
      ∃ t, PSs (cxOf (L2.CX P w) P w K mg base N qual (defScope st) f cdv Ar outer s H E).nox (defBody st) t ∧ ∀ (W : Wd) (x : α), C x → TyS W ((A x).map some ++ List.replicate (N.length - ps.length) none) t noN (rL W (Ts x)) noN noN) :
    FnOk P w K mg base (L2.CX P w) (k + 1) f fd ps (spL C A Ts) := by
  refine okN F S (fun vs H Q E h => ?_) fun cdv Ar outer s H vs Q E hr h => ?_
  · obtain ⟨M, B, x, _, _, _, hC, h, _⟩ := h
    rw [h.length, len x hC]
  · obtain ⟨M, B, x, hs, hb, ha, hC, h, q⟩ := h
    obtain ⟨t, ht, k⟩ := hbody cdv Ar outer s H E hr
    refine ⟨t, ht, k (Wd.base M B H hs) x hC (L2.start N vs) H ⟨hb, ha, Ex.refl B H, True.intro⟩ ?_ _ (fun σ' H' _ n => n.elim) (fun v H' n => ?_) (fun _ _ _ z => z.elim) (fun _ _ _ z => z.elim)⟩
    · unfold L2.start
      have e : vs.length = ps.length := by rw [h.length, len x hC]
      rw [e]
      exact env_start h _
    · obtain ⟨p, xs, rfl, h1, h2, h3, h4⟩ := n
      exact q p xs H' h1 h2 h3 h4
end
/-! ### a new box -/
/-- the box at p is one more -/
def Wd.bx (W : Wd) (p : Addr) : Wd := ⟨Ew.ad W.M p, fun a => W.B a ∨ a = p, W.H0, fun H => ∃ H1, W.Ω H1 ∧ H1 p = none ∧ Ex (fun a => W.B a ∨ a = p) H1 H, fun a h => h.imp (W.sub a) id, fun e ⟨H1, h1, h2, h3⟩ => ⟨H1, h1, h2, h3.trans e⟩⟩
theorem Ex.less {B : Addr → Prop} {p : Addr} {H H' : Hp} (e : Ex (fun a => B a ∨ a = p) H H') (h : H p = none) : Ex B H H' := fun a o q => (e a o q).imp id fun ⟨b, z⟩ => ⟨b.elim id fun w => absurd h (by rw [← w, q]; exact fun z => nomatch z), z⟩
theorem Ex.more {B : Addr → Prop} {p : Addr} {H H' : Hp} (e : Ex B H H') : Ex (fun a => B a ∨ a = p) H H' := e.sub fun _ h => .inl h
theorem Exm.thru {M B : Addr → Prop} {p : Addr} {H H1 H2 : Hp} (e : Exm M B H H1) (f : Exm (ad M p) (fun a => B a ∨ a = p) H1 H2) (hp : H p = none) : Exm M B H H2 := fun a o h => by
  have ne := ne_of_none h hp
  rcases e a o h with q | ⟨m, ⟨xs, rfl⟩, ⟨ys, q⟩, b⟩
  · rcases f a o q with r | ⟨m, x, y, b⟩
    · exact .inl r
    · exact .inr ⟨m.resolve_right ne, x, y, fun z z2 => b (.inl z) (by obtain ⟨xs, z3, z4⟩ := z2; rw [h] at z3; cases z3; exact ⟨xs, q, z4⟩)⟩
  · rcases f a _ q with r | ⟨_, _, y, b'⟩
    · exact .inr ⟨m, ⟨xs, rfl⟩, ⟨ys, r⟩, fun z1 z2 => by
        obtain ⟨zs, z3, z4⟩ := b z1 z2
        rw [q] at z3; cases z3
        exact ⟨ys, r, z4⟩⟩
    · exact .inr ⟨m, ⟨xs, rfl⟩, y, fun z1 z2 => b' (.inl z1) (b z1 z2)⟩
section
variable {W : Wd} {Γ Γ' : Gam} {te : TE} {tw : TS} {i : Nat} {Ts : List Typ} {T : Typ} {Bk Ct : Sx → Hp → Prop}
/-- box = .., then the rest in the wider world; behind it the slots of Γ' -/
theorem tys_box (h : TyL W Γ te Ts) (hx : ∀ xs H, TysV W.M W.B Ts xs H → BxL xs)
    (hΓ : ∀ p σ H0 H, Exm W.M W.B H0 H → H0 p = none → EnvL W.M W.B Γ σ H0 → EnvL (ad W.M p) (fun a => W.B a ∨ a = p) Γ σ H)
    (hb : ∀ p, ¬ W.M p → TyS (W.bx p) (Γ.set i (some bx)) tw (nE (W.bx p) Γ') (rW (W.bx p) T) noN noN)
    (hn : ∀ p σ H, EnvL (ad W.M p) (fun a => W.B a ∨ a = p) Γ' σ H → EnvL W.M W.B Γ' σ H) (hT : ∀ p v H, T.p (ad W.M p) (fun a => W.B a ∨ a = p) v H → T.p W.M W.B v H) :
    TyS W Γ (tSeq (tAsg te (gName i)) tw) (nE W Γ') (rW W T) Bk Ct := fun σ H c g D dn dr db dc =>
  h σ H c g _ fun p xs H1 e hp h1 h2 => by
    have n0 : W.H0 p = none := c.ex.free hp
    have nm : ¬ W.M p := c.nm hp
    have bx1 : BoxAt H1 p := ⟨xs, h1, hx xs H1 h2⟩
    have c1 := c.up e
    have c2 : Cxt (W.bx p) H1 := ⟨fun a z => z.elim (c1.box a) (fun w => by rw [w]; exact bx1), fun a z => z.elim (c1.al a) (fun w => by rw [w, h1]; intro q; cases q), c1.ex.more, H, c.own, hp, e.more⟩
    have g1 : EnvL (ad W.M p) (fun a => W.B a ∨ a = p) Γ σ H1 := hΓ p σ H H1 e.toW hp g
    have g2 : EnvL (ad W.M p) (fun a => W.B a ∨ a = p) (Γ.set i (some bx)) (σ.set i (some (.ref p))) H1 := EnvL.set (T := bx) ⟨p, rfl, .inr rfl, bx1⟩ g1
    refine hb p nm _ H1 c2 g2 D (fun σ' H' f n => dn σ' H' (e.toW.thru f hp) ⟨?_, hn p σ' H' n.2⟩) (fun v H' n => dr v H' ⟨n.1.less n0, hT p v H' n.2⟩) (fun _ _ _ z => z.elim) (fun _ _ _ z => z.elim)
    refine ⟨fun a z => n.1.box a (.inl z), fun a z => n.1.al a (.inl z), n.1.ex.less n0, ?_⟩
    obtain ⟨H2, o1, o2, o3⟩ := n.1.own
    exact W.kept (o3.less o2) o1
/-! ### values of which just something is known -/
theorem exT_list {α : Type} {A : α → Typ} {M B : Addr → Prop} {H : Hp} : ∀ {n : Nat} {xs : List V}, TysV M B (List.replicate n (exT A)) xs H → ∃ l : List α, l.length = n ∧ TysV M B (l.map A) xs H
  | 0, [], _ => ⟨[], rfl, True.intro⟩
  | n + 1, x :: xs, h => by
    obtain ⟨⟨y, hy⟩, h2⟩ := h
    obtain ⟨l, e, k⟩ := exT_list (n := n) h2
    exact ⟨y :: l, by rw [List.length_cons, e], hy, k⟩
  | 0, _ :: _, h => h.elim
  | n + 1, [], h => h.elim
theorem gd_list {α : Type} {A : α → Typ} {φ : α → Prop} {M B : Addr → Prop} {H : Hp} : ∀ {l : List α} {xs : List V}, TysV M B (l.map fun x => gd (φ x) (A x)) xs H → (∀ x ∈ l, φ x) ∧ TysV M B (l.map A) xs H
  | [], [], _ => ⟨(fun _ z => by cases z), True.intro⟩
  | y :: l, x :: xs, h => by
    obtain ⟨⟨h1, h2⟩, h3⟩ := h
    obtain ⟨k1, k2⟩ := gd_list (l := l) h3
    refine ⟨fun z hz => ?_, h2, k2⟩
    rcases List.mem_cons.mp hz with rfl | hz
    · exact h1
    · exact k1 z hz
  | [], _ :: _, h => h.elim
  | _ :: _, [], h => h.elim
/-- [.. for ..]: n values of one kind -/
theorem TyL.exs {α : Type} {A : α → Typ} {φ : α → Prop} {n : Nat} {K : PySem.W.Frag} (h : TyL W Γ te (List.replicate n (exT fun x : α => gd (φ x) (A x)))) :
    Ty W Γ (tCB (rTupOf K) (tCons te tNil)) (exT fun l : List α => gd (l.length = n ∧ ∀ x ∈ l, φ x) (tupT K (l.map A))) := (ty_tupOf (K := K) h).sub fun v H _ z => by
  obtain ⟨a, xs, h1, h2, h3⟩ := z
  obtain ⟨l, e, k⟩ := exT_list h3
  obtain ⟨k1, k2⟩ := gd_list k
  exact ⟨l, ⟨e, k1⟩, a, xs, h1, h2, k2⟩
theorem Ty.exs {α β : Type} {A : α → Typ} {C : β → Typ} (h : Ty W Γ te (exT A)) (k : ∀ x v H, (A x).at W v H → ∃ y, (C y).at W v H) : Ty W Γ te (exT C) := h.sub fun v H _ ⟨x, z⟩ => k x v H z
theorem Ty.ex {α : Type} {A : α → Typ} (x : α) (h : Ty W Γ te (A x)) : Ty W Γ te (exT A) := h.sub fun v H _ z => ⟨x, z⟩
/-- an operator on an unknown -/
theorem ty_opX {α β : Type} {A : α → Typ} {C : Typ} {P : β → Typ} {r : R2} {ta tb : TE} (ha : Ty W Γ ta (exT A)) (hb : Ty W Γ tb C) (ho : ∀ x, ∃ y, OpT W r (A x) C (P y)) : Ty W Γ (tOp r ta tb) (exT P) := ty_op ha hb fun u v H c ⟨x, hu⟩ hv Q q => by
  obtain ⟨y, k⟩ := ho x
  exact k u v H c hu hv Q fun w H1 e z => q w H1 e ⟨y, z⟩
theorem ty_opY {α β : Type} {A : Typ} {C : α → Typ} {P : β → Typ} {r : R2} {ta tb : TE} (ha : Ty W Γ ta A) (hb : Ty W Γ tb (exT C)) (ho : ∀ x, ∃ y, OpT W r A (C x) (P y)) : Ty W Γ (tOp r ta tb) (exT P) := ty_op ha hb fun u v H c hu ⟨x, hv⟩ Q q => by
  obtain ⟨y, k⟩ := ho x
  exact k u v H c hu hv Q fun w H1 e z => q w H1 e ⟨y, z⟩
end
theorem OpT.gdl {W : Wd} {r : R2} {φ : Prop} {A C P : Typ} (h : φ → OpT W r A C P) : OpT W r (gd φ A) C P := fun u v H c ⟨f, hu⟩ hv Q q => h f u v H c hu hv Q q
theorem OpT.gdr {W : Wd} {r : R2} {φ : Prop} {A C P : Typ} (h : φ → OpT W r A C P) : OpT W r A (gd φ C) P := fun u v H c hu ⟨f, hv⟩ Q q => h f u v H c hu hv Q q
/-- a number below n, of which no more is known -/
def digT (K : PySem.W.Frag) (n : Nat) : Typ := exT fun k : Nat => gd (k < n) (dt K (.int (k : Nat)))
/-- one of these -/
def anyT (Ts : List Typ) : Typ := exT fun n : Nat => gd (n < Ts.length) (Ts.getD n (isV .non))
theorem ty_pick {W : Wd} {Γ : Gam} {K : PySem.W.Frag} {ta tb : TE} {Ts : List Typ} {n : Nat} (ha : Ty W Γ ta (lstT Ts)) (hb : Ty W Γ tb (digT K n)) (hn : n ≤ Ts.length) : Ty W Γ (tOp (rIx K) ta tb) (anyT Ts) := ty_opY ha hb fun k => by
  refine ⟨k, OpT.gdr fun f => ?_⟩
  have hk : k < Ts.length := by omega
  have e : Ts[k]? = some (Ts.getD k (isV .non)) := by rw [List.getD_eq_getElem?_getD, List.getElem?_eq_getElem hk]; rfl
  exact fun u v H c hu hv Q q => opt_ixLT e u v H c hu hv Q fun w H1 e1 z => q w H1 e1 ⟨hk, z⟩
end Ew

end
section
set_option Elab.async false
set_option linter.all false
set_option maxRecDepth 100000
set_option maxHeartbeats 1000000
/-! EwS: readings whose value is known, at a heap that is known. -/
namespace Ew
open PySem PySem.Spec PyProof.Rows L2
/-- te yields v and leaves the heap -/
def Ev (te : TE) (σ : Sx) (H : Hp) (v : V) : Prop := ∀ Q : VK, Q v H → te σ H Q
def EvA (tl : TA) (σ : Sx) (H : Hp) (vs : List V) : Prop := ∀ Q : List V → Hp → Prop, Q vs H → tl σ H Q
section
variable {σ : Sx} {H : Hp} {K : PySem.W.Frag} {te ta tb : TE} {tl : TA} {u v w : V} {vs : List V} {i j : Int} {n : Nat} {p : Addr} {xs : List V} {a b : Bool}
theorem ev_var (h : σ[n]? = some (some v)) : Ev (tVar n) σ H v := fun Q q => ⟨v, h, q⟩
theorem ev_c : Ev (tC v) σ H v := fun Q q => q
theorem ev_op {r : R2} (ha : Ev ta σ H u) (hb : Ev tb σ H v) (hr : ∀ Q : VK, Q w H → r u v H Q) : Ev (tOp r ta tb) σ H w := fun Q q => ha _ (hb _ (hr Q q))
theorem ev_I0 {g : Int → Int → V} (ha : Ev ta σ H (.int i)) (hb : Ev tb σ H (.int j)) : Ev (tOp (rI0 g) ta tb) σ H (g i j) := ev_op ha hb fun Q q => ⟨i, j, rfl, rfl, q⟩
theorem ev_I {D : Int → Int → Prop} {g : Int → Int → V} (hd : D i j) (ha : Ev ta σ H (.int i)) (hb : Ev tb σ H (.int j)) : Ev (tOp (rI D g) ta tb) σ H (g i j) := ev_op ha hb fun Q q => ⟨i, j, rfl, rfl, hd, q⟩
theorem ev_add (ha : Ev ta σ H (.int i)) (hb : Ev tb σ H (.int j)) : Ev (tOp (rAddA K) ta tb) σ H (.int (i + j)) := ev_op ha hb fun Q q => .inl ⟨i, j, rfl, rfl, q⟩
theorem ev_mul (hd : CMul i j) (ha : Ev ta σ H (.int i)) (hb : Ev tb σ H (.int j)) : Ev (tOp rMulA ta tb) σ H (.int (i * j)) := ev_op ha hb fun Q q => .inl ⟨i, j, rfl, rfl, hd, q⟩
theorem ev_div (hd : CDivW i j) (ha : Ev ta σ H (.int i)) (hb : Ev tb σ H (.int j)) : Ev (tOp rDivA ta tb) σ H (.int (i / j)) := ev_op ha hb fun Q q => .inl ⟨i, j, rfl, rfl, hd, q⟩
theorem ev_ix (hH : H p = some (.lst xs)) (e : atI xs i = some w) (ha : Ev ta σ H (.ref p)) (hb : Ev tb σ H (.int i)) : Ev (tOp (rIx K) ta tb) σ H w := ev_op ha hb fun Q q => .inl ⟨p, xs, i, w, rfl, rfl, SqL.of hH, e, q⟩
theorem eva_nil : EvA tNil σ H [] := fun Q q => q
theorem eva_cons (ha : Ev te σ H v) (hr : EvA tl σ H vs) : EvA (tCons te tl) σ H (v :: vs) := fun Q q => ha _ (hr _ q)
theorem ev_int (h : Ev te σ H (.int i)) : Ev (tCB rInt (tCons te tNil)) σ H (.int i) := fun Q q => h _ (.inl ⟨i, rfl, q⟩)
theorem Ev.tt {Q : Bool → Hp → Prop} (h : Ev te σ H (.bl a)) (q : Q a H) : tTest te σ H Q := h _ ⟨a, rfl, q⟩
theorem Ev.tbl {Q : Bool → Hp → Prop} (h : Ev te σ H (.bl a)) (q : Q a H) : tB te σ H Q := h _ ⟨a, rfl, q⟩
/-- x[j] = e, x a list -/
theorem ev_put {D : Ends} {tj : TE} {k : Nat} (he : Ev te σ H v) (hx : Ev ta σ H (.ref p)) (hj : Ev tj σ H (.int i)) (hH : H p = some (.lst xs)) (hk : ixN xs.length i = some k) (q : D.nx σ (upd H p (.lst (xs.set k v)))) : tAsg te (gSub ta tj rSetL) D σ H :=
  he _ (hx _ (hj _ ⟨p, xs, i, k, rfl, rfl, hH, hk, q⟩))
end
end Ew

end
section
set_option Elab.async false
set_option linter.all false
set_option maxRecDepth 100000
set_option maxHeartbeats 2000000
/-! EwQ: enumerate of a tuple (turned from the worked proofs for a list). -/
namespace PySem
open Sem (wp)
open AutoSeq1 (wpAny_loadPart')
theorem meets_enumerate_newT (l : Addr) (items : Array Value) (n : Nat) (dct : Option Addr) (sl : Array (Option Value)) :
    Meets (Builtin.«enumerate.__new__» ⟨[.type "enumerate", .ref l], []⟩) (fun _ R s => s.heap.get? l = some { cls := .type "tuple", dict := dct, data := .seq items n, slots := sl } ∧
      R (.ok (.ret (.ref (s.heap.push { cls := .type "tuple_iterator", data := .fields #[.ref l, .int 0 0] }).objs.size)))
        { s with heap := (s.heap.push { cls := .type "tuple_iterator", data := .fields #[.ref l, .int 0 0] }).push { cls := .type "enumerate", data := .fields #[.none, .bool false, .ref s.heap.objs.size, rawInt 0, .none, .none] } }) :=
  .of_wp fun prog w A R s h => by
    obtain ⟨hp, g, d, tk, os⟩ := s; obtain ⟨hl, h⟩ := h
    have hsub := sub_enumerate
    have hL : Heap.IsTuple (Shared.heap ⟨hp, g, d, tk, os⟩) l items := ⟨_, hl, rfl, n, rfl⟩
    wp_walk using wpAny_loadPart' hl
    refine wpAny_stack_any fun st => wpAny_pure ?_
    split
    · rename_i c _ _ _ _ _
      cases (c == Value.type "enumerate")
      · wp_walk using wpAny_loadPart' hl, wpAny_pyIter_tuple hL
        exact ⟨_, rfl, h⟩
      · wp_walk using wpAny_loadPart' hl, wpAny_pyIter_tuple hL
        exact ⟨_, rfl, h⟩
    · wp_walk using wpAny_loadPart' hl, wpAny_pyIter_tuple hL
      exact ⟨_, rfl, h⟩

section
variable {prog : Program} {w : World} {A : Around} {E : Value → Shared → Prop} {s : Shared}
theorem enumerate_next_itemT {e it l : Addr} {i : Nat} {items : Array Value} {x old : Value} {Q : Value → Shared → Prop}
    (he : IsEnum s.heap e it i old) (hit : s.heap.IsTupleIter it l i) (hl : s.heap.IsTuple l items) (hx : items[i]? = some x) (hne : e ≠ it)
    (hQ : ∀ h', IsEnumOut h' e it ((i : Int) + 1) x s.heap.objs.size → h'.IsTupleIter it l (i + 1) →
      h'.get? s.heap.objs.size = some { cls := .type "tuple", data := .seq #[.int i s.toks, x] } → h'.objs.size = s.heap.objs.size + 1 →
      (∀ b o, b ≠ e → b ≠ it → s.heap.get? b = some o → h'.get? b = some o) → Q (.ref s.heap.objs.size) { s with heap := h', toks := s.toks + 1 }) :
    wpAny (model prog w) A (Builtin.«enumerate.__next__» ⟨[.ref e], []⟩) (fun fin s' => ∃ v, fin = .done (.ret v) ∧ Q v s') E s := by
  obtain ⟨hp, g, d, tk, os⟩ := s
  show wpAny _ _ (field (.ref e) 2 >>= _) _ _ _
  refine wpAny_bind (wpAny_field he rfl (x := .ref it) rfl ?_)
  refine wpAny_bind (RZ.nextOf_tuple_item hit hl hx fun h₁ hit₁ hs₁ => ?_)
  replace hs₁ : Heap.SameBut it hp h₁ := hs₁
  have he₁ : IsEnum h₁ e it i old := (hs₁.2 e hne).trans he
  show wpAny _ _ (field (.ref e) 3 >>= _) _ _ ⟨h₁, g, d, tk, os⟩
  refine wpAny_bind (wpAny_field he₁ rfl (x := rawInt i) rfl ?_)
  show wpAny _ _ (field (.ref e) 4 >>= _) _ _ ⟨h₁, g, d, tk, os⟩
  refine wpAny_bind (wpAny_field he₁ rfl (x := .none) rfl ?_)
  show wpAny _ _ (mkInt i >>= _) _ _ ⟨h₁, g, d, tk, os⟩
  refine wpAny_bind (wpAny_mkInt ?_)
  show wpAny _ _ (setField (.ref e) 3 (rawInt ((i : Int) + 1)) >>= _) _ _ ⟨h₁, g, d, tk + 1, os⟩
  refine wpAny_bind (wpAny_setField_rec he₁ (by simp) fun h₂ he₂ hs₂ => ?_)
  replace hs₂ : Heap.SameBut e h₁ h₂ := hs₂
  replace he₂ : IsEnum h₂ e it ((i : Int) + 1) old := he₂
  show wpAny _ _ (setField (.ref e) 4 .none >>= _) _ _ ⟨h₂, g, d, tk + 1, os⟩
  refine wpAny_bind (wpAny_setField_rec he₂ (by simp) fun h₃ he₃ hs₃ => ?_)
  replace hs₃ : Heap.SameBut e h₂ h₃ := hs₃
  replace he₃ : IsEnum h₃ e it ((i : Int) + 1) old := he₃
  show wpAny _ _ (newTuple [.int i tk, x] >>= _) _ _ ⟨h₃, g, d, tk + 1, os⟩
  refine wpAny_bind (wpAny_newTuple ?_)
  have he₄ : IsEnum (h₃.push { cls := .type "tuple", data := .seq #[.int i tk, x] }) e it ((i : Int) + 1) old := Heap.get?_push_of_some _ he₃
  generalize hh₄ : h₃.push { cls := .type "tuple", data := .seq #[.int i tk, x] } = h₄ at he₄
  have hsz : h₃.objs.size = hp.objs.size := by rw [hs₃.1, hs₂.1, hs₁.1]
  have hel : e < hp.objs.size := Heap.lt_size he
  have ht₄ : h₄.get? hp.objs.size = some { cls := .type "tuple", data := .seq #[.int i tk, x] } := by rw [← hh₄, ← hsz]; exact Heap.get?_push_size _ rfl
  have hz₄ : h₄.objs.size = hp.objs.size + 1 := by rw [← hh₄, Heap.size_push, hsz]
  have hk₄ : ∀ b o, b ≠ e → b ≠ it → hp.get? b = some o → h₄.get? b = some o := fun b o hbe hbi hb => by
    rw [← hh₄]; exact Heap.get?_push_of_some _ (hs₃.extBut b o hbe (hs₂.extBut b o hbe (hs₁.extBut b o hbi hb)))
  have hit₄ : h₄.IsTupleIter it l (i + 1) := by
    rw [← hh₄]; obtain ⟨o, ho, r⟩ := (hit₁.extBut hs₂.extBut (Ne.symm hne)).extBut hs₃.extBut (Ne.symm hne); exact ⟨o, Heap.get?_push_of_some _ ho, r⟩
  show wpAny _ _ (Builtin.SmallTypes.ownedTupleIsFree (.ref e) >>= _) _ _ ⟨h₄, g, d, tk + 1, os⟩
  rw [hsz]
  clear hh₄ he₃ hs₃ he₂ hs₂ he₁ hs₁ hit₁ hsz h₃ h₂ h₁
  refine wpAny_bind ?_
  · unfold Builtin.SmallTypes.ownedTupleIsFree
    refine wpAny_bind (wpAny_field he₄ rfl (x := .none) rfl (wpAny_pure ?_))
    simp only [if_true]
    refine wpAny_bind (wpAny_rule ?_)
    refine wpAny_bind (wpAny_field he₄ rfl (x := old) rfl ?_)
    refine wpAny_bind (wpAny_setField_rec he₄ (by simp) fun h₅ he₅ hs₅ => ?_)
    replace hs₅ : Heap.SameBut e h₄ h₅ := hs₅
    replace he₅ : IsEnum h₅ e it ((i : Int) + 1) x := he₅
    show wpAny _ _ (Builtin.SmallTypes.ownedTupleHandOut (.ref e) (.ref hp.objs.size) >>= _) _ _ ⟨h₅, g, d, tk + 1, os⟩
    refine wpAny_bind ?_
    · unfold Builtin.SmallTypes.ownedTupleHandOut
      refine wpAny_bind (wpAny_setField_rec he₅ (by simp) fun h₆ he₆ hs₆ => ?_)
      replace hs₆ : Heap.SameBut e h₅ h₆ := hs₆
      replace he₆ : IsEnumOut h₆ e it ((i : Int) + 1) x hp.objs.size := he₆
      refine wpAny_setField_rec he₆ (by simp) fun h₇ he₇ hs₇ => ?_
      replace hs₇ : Heap.SameBut e h₆ h₇ := hs₇
      replace he₇ : IsEnumOut h₇ e it ((i : Int) + 1) x hp.objs.size := he₇
      refine wpAny_bind (wpAny_letGo (wpAny_pure ⟨_, rfl, hQ h₇ he₇ ?_ ?_ ?_ ?_⟩))
      · exact ((hit₄.extBut hs₅.extBut (Ne.symm hne)).extBut hs₆.extBut (Ne.symm hne)).extBut hs₇.extBut (Ne.symm hne)
      · exact hs₇.extBut _ _ (Nat.ne_of_gt hel) (hs₆.extBut _ _ (Nat.ne_of_gt hel) (hs₅.extBut _ _ (Nat.ne_of_gt hel) ht₄))
      · rw [hs₇.1, hs₆.1, hs₅.1, hz₄]
      · exact fun b o hbe hbi hb => hs₇.extBut b o hbe (hs₆.extBut b o hbe (hs₅.extBut b o hbe (hk₄ b o hbe hbi hb)))

theorem wpAny_pyNext_enum_itemT {e it l : Addr} {i : Nat} {items : Array Value} {x old : Value} {Q : Option Value → Shared → Prop}
    (he : IsEnum s.heap e it i old) (hit : s.heap.IsTupleIter it l i) (hl : s.heap.IsTuple l items) (hx : items[i]? = some x) (hne : e ≠ it)
    (hQ : ∀ h', IsEnumOut h' e it ((i : Int) + 1) x s.heap.objs.size → h'.IsTupleIter it l (i + 1) →
      h'.get? s.heap.objs.size = some { cls := .type "tuple", data := .seq #[.int i s.toks, x] } → h'.objs.size = s.heap.objs.size + 1 →
      (∀ b o, b ≠ e → b ≠ it → s.heap.get? b = some o → h'.get? b = some o) → Q (some (.ref s.heap.objs.size)) { s with heap := h', toks := s.toks + 1 }) :
    wpAny (model prog w) A (pyNext (.ref e)) Q E s := by
  have hT : s.TypeIs (.ref e) "enumerate" := ⟨_, he, rfl⟩
  unfold pyNext
  exact wpAny_bind (wpAny_attempt (wpAny_callSpecial?_slot (name := Str.ofString "__next__") hT F.slot_enumerate_next
    (wpAny_call_entry F.slot_enumerate_next hT F.entry_enumerate_next
      (enumerate_next_itemT he hit hl hx hne fun h' a b c d k => wpAny_pure (hQ h' a b c d k)) (F.args_enumerate_next_1 _))))

theorem wpAny_pyNext_enum_endT {e it l : Addr} {i : Nat} {items : Array Value} {old : Value} {Q : Option Value → Shared → Prop} (hh : A.handled = none)
    (he : IsEnum s.heap e it i old) (hit : s.heap.IsTupleIter it l i) (hl : s.heap.IsTuple l items) (hx : items[i]? = none)
    (hQ : ∀ h', Heap.ExtBut it s.heap h' → Q none { s with heap := h' }) : wpAny (model prog w) A (pyNext (.ref e)) Q E s := by
  have hT : s.TypeIs (.ref e) "enumerate" := ⟨_, he, rfl⟩
  unfold pyNext
  refine wpAny_bind (wpAny_attempt (wpAny_callSpecial?_slot (name := Str.ofString "__next__") hT F.slot_enumerate_next
    (wpAny_call_entry F.slot_enumerate_next hT F.entry_enumerate_next ?_ (F.args_enumerate_next_1 _))))
  show wpAny _ _ (field (.ref e) 2 >>= _) _ _ _
  refine wpAny_bind (wpAny_field he rfl (x := .ref it) rfl ?_)
  refine wpAny_bind (RZ.nextOf_tuple_end hh hit hl hx fun h' x he' hx' => ?_)
  obtain ⟨o, ho, hc⟩ := hx'
  refine wpAny_bind (wpAny_isInstance (T := "StopIteration") (b := true) ⟨o, ho, hc⟩ isSubtype_stop ?_)
  exact wpAny_pure (hQ _ he')
theorem call_enumerate_tuple {l : Addr} {items : Array Value} {Q : Value → Shared → Prop} (hL : s.heap.IsTuple l items)
    (h : ∀ h', IsEnum h' (s.heap.objs.size + 1) s.heap.objs.size 0 .none → h'.IsTupleIter s.heap.objs.size l 0 → h'.objs.size = s.heap.objs.size + 2 →
      (∀ b o, s.heap.get? b = some o → h'.get? b = some o) → Q (.ref (s.heap.objs.size + 1)) { s with heap := h' }) :
    wpAny (model prog w) A (call (.type "enumerate") [.ref l]) Q E s := by
  obtain ⟨⟨c, dct, dt, sl⟩, hl, hc, n, hd⟩ := hL
  replace hc : c = .type "tuple" := hc
  replace hd : dt = .seq items n := hd
  subst hc hd
  refine callType_new F.called_enumerate (by decide) (F.typeCall_enumerate_1 _) (F.newCall_enumerate_1 _) (fun obj => F.args_object_init_2 obj _) F.entry_enumerate_new
    (meets_enumerate_newT l items n dct sl) ⟨hl, ?_⟩
  have hz : (s.heap.push { cls := .type "tuple_iterator", data := .fields #[.ref l, .int 0 0] }).objs.size = s.heap.objs.size + 1 := Heap.size_push ..
  show _ ∧ _
  rw [hz]
  have he : IsEnum ((s.heap.push { cls := .type "tuple_iterator", data := .fields #[.ref l, .int 0 0] }).push
      { cls := .type "enumerate", data := .fields #[.none, .bool false, .ref s.heap.objs.size, rawInt 0, .none, .none] }) (s.heap.objs.size + 1) s.heap.objs.size 0 .none := by
    have := Heap.get?_push_size (s.heap.push { cls := .type "tuple_iterator", data := .fields #[.ref l, .int 0 0] })
      (o := { cls := .type "enumerate", data := .fields #[.none, .bool false, .ref s.heap.objs.size, rawInt 0, .none, .none] }) rfl
    rw [hz] at this; exact this
  refine ⟨⟨_, he, rfl⟩, h _ he ⟨_, Heap.get?_push_of_some _ (Heap.get?_push_size _ rfl), rfl, rfl⟩ (by rw [Heap.size_push, hz]) fun b o x => Heap.get?_push_of_some _ (Heap.get?_push_of_some _ x)⟩

end
end PySem
namespace L2
open PySem PySem.Spec PyProof.Rows
/-- the tuple at a as it stands at each turn, each item in a new pair -/
def IteT (K : PySem.W.Frag) (a : Addr) : It :=
  ⟨fun i H => ∃ (xs : List V) (x : V), SqT K H a xs ∧ xs[i]? = some x, fun i H v H' => ∃ T x, v = .ref T ∧ H T = none ∧ H' = upd H T (.tup [.int (i : Nat), x]) ∧ ∀ xs, SqT K H a xs → xs[i]? = some x, fun i H => ∃ xs : List V, SqT K H a xs ∧ xs.length ≤ i⟩
theorem turn_enumT {P : Program} {w : World} {K : PySem.W.Frag} {elts : List Expr} {kk : Nat} {tpos : Pos} (a e it : Addr) :
    Turn P w K (.Tuple elts kk tpos) (IteT K a) [e, it] e (fun i h => (∃ old, IsEnum h e it ((i : Nat) : Int) old) ∧ h.IsTupleIter it a i ∧ e ≠ it) where
  mem := by simp
  obj := fun i h st b hb => by
    obtain ⟨⟨old, he⟩, ⟨o, ho, hc, hd⟩, _⟩ := st
    have e' : b = e ∨ b = it := by simpa using hb
    rcases e' with z | z
    · rw [z]; exact ⟨_, he, fun v q => nomatch q⟩
    · rw [z]; exact ⟨o, ho, fun v q => by rw [hd] at q; cases q⟩
  keep := fun i h h' st k => let ⟨⟨old, he⟩, hi, hne⟩ := st; ⟨⟨old, k e (by simp) _ he⟩, hi.at fun o q => k it (by simp) o q, hne⟩
  item := by
    intro X hP hw hK hc i pins s σ H E I hf st hg
    subst hP hw hK
    obtain ⟨⟨old, he⟩, hit, hne⟩ := st
    obtain ⟨xs, x, hq, hx⟩ := hg
    obtain ⟨its, rv, p, hz⟩ := I.tuple hq
    obtain ⟨u, hu, ru⟩ := rv.get hx
    have hel : e < s.heap.objs.size := Heap.lt_size he
    have hil : it < s.heap.objs.size := by obtain ⟨_, q, _⟩ := hit; exact Heap.lt_size q
    refine wpAny_pyNext_enum_itemT he hit p (x := u) (by simpa using hu) hne fun h' ho hit' hT hsz hk => ?_
    refine ⟨_, rfl, wpAny_letOwnedTupleGo_enum (s := { s with heap := h', toks := s.toks + 1 }) ho fun h'' he' sb => ?_⟩
    have hT2 : h''.get? s.heap.objs.size = some { cls := .type "tuple", data := .seq #[.int i s.toks, u] } := (sb.2 _ (Nat.ne_of_gt hel)).trans hT
    have new : ObjOk X.prog X.w (upd H s.heap.objs.size (.tup [.int (i : Nat), x])) h'' s.heap.objs.size (.tup [.int (i : Nat), x]) :=
      ⟨by show 2 ≤ sizeLine; decide, [.int i s.toks, u], .cons ⟨_, rfl⟩ (.cons ru .nil), ⟨_, hT2, rfl, _, rfl⟩⟩
    have I1 : Inv X pins σ (upd H s.heap.objs.size (.tup [.int (i : Nat), x])) { s with heap := h'', toks := s.toks + 1 } :=
      I.turnedNew (ch := [e, it]) (fun b ob hb q => (sb.2 b (fun z => hb (by simp [z]))).trans (hk b ob (fun z => hb (by simp [z])) (fun z => hb (by simp [z])) q)) hf (Nat.le_refl _) new
    refine ⟨.ref s.heap.objs.size, _, I1, rfl, ⟨_, x, rfl, I.hok.fresh (Nat.le_refl _), rfl, fun ys hy => by rw [I.tuple_inj hy hq]; exact hx⟩, ⟨⟨u, ?_⟩, hit'.at fun o q => (sb.2 it (Ne.symm hne)).trans q, hne⟩, fun b hb => ?_⟩
    · have e1 : ((i + 1 : Nat) : Int) = (i : Int) + 1 := by omega
      rw [e1]; exact he'
    · have hb' : b < s.heap.objs.size := by
        have e' : b = e ∨ b = it := by simpa using hb
        rcases e' with z | z
        · rw [z]; exact hel
        · rw [z]; exact hil
      rw [upd_ne (Nat.ne_of_lt hb')]
      exact (hf b hb).1
  done := by
    intro X hP hw hK hc i pins s σ H E I hf st hg
    subst hP hw hK
    obtain ⟨⟨old, he⟩, hit, hne⟩ := st
    obtain ⟨xs, hq, hx⟩ := hg
    obtain ⟨its, rv, p, hz⟩ := I.tuple hq
    obtain ⟨f0, f1, f2, f3, f4, f5⟩ := hf it (by simp)
    have hl := rv.length
    exact wpAny_pyNext_enum_endT (I.ok.hd hc) he hit p (by simp; omega) fun h' eb => ⟨rfl, I.turned (t' := s.toks) (fun b o hb q => eb b o hb q) f0 f1 f3 f4 f5⟩
  self := fun A i s Q E st h => let ⟨⟨_, he⟩, _⟩ := st; wpAny_pyIter_enum he h
def iEnumT (K : PySem.W.Frag) (ta : TA) : TI := fun σ H R => ta σ H fun vs H1 => ∃ a xs, vs = [.ref a] ∧ SqT K H1 a xs ∧ R (IteT K a) H1
theorem pi_enumT {X : Cx} {e : Expr} {ta : TA} {p pos tpos : Pos} {elts : List Expr} {kk : Nat} (hg : Gl X "enumerate") (hm : X.mg "enumerate" = none) (ha : PA X [e] ta) (hs : starEach [e] X.env = [(false, eval e X.env)] := by rfl) :
    PI X (.Tuple elts kk tpos) (.Call (.Name "enumerate" p) [e] [] pos) (iEnumT X.K ta) := by
  refine ⟨fun pins s σ H R I h => ?_⟩
  refine Call_ (ld_blt I hg hm boot_enumerate (PyProof.Rows.callWith_type1 (thn (ha.run pos pins s σ H _ I h) fun us s1 ⟨vs, H1, I1, r1, q1⟩ => ?_) hs rfl))
  obtain ⟨a, xs, ex, hq, q⟩ := q1
  subst ex
  cases r1 with
  | cons r rr =>
    cases rr
    cases r
    obtain ⟨its, rv, p', hz⟩ := I1.tuple hq
    refine call_enumerate_tuple p' fun h' he hit hsz hk => wpAny_pyIter_enum he ?_
    have I2 : Inv X pins σ H1 { s1 with heap := h' } := I1.kept (t' := s1.toks) hk
    refine ⟨s1.heap.objs.size + 1, [s1.heap.objs.size + 1, s1.heap.objs.size], _, _, H1, rfl, I2, turn_enumT a (s1.heap.objs.size + 1) s1.heap.objs.size, ⟨⟨.none, he⟩, hit, Nat.succ_ne_self _⟩, fun b hb => ?_, q⟩
    have e' : b = s1.heap.objs.size + 1 ∨ b = s1.heap.objs.size := by simpa using hb
    have hle : s1.heap.objs.size ≤ b := by
      rcases e' with z | z
      · rw [z]; exact Nat.le_add_right _ _
      · rw [z]; exact Nat.le_refl _
    exact I1.fpOk hle (I1.hok.fresh hle)
end L2

end
section
set_option Elab.async false
set_option linter.all false
set_option maxRecDepth 100000
set_option maxHeartbeats 2000000
/-! EwR: slices, tuple times one, enumerate of tuples, several names at once. -/
namespace L2
open PySem PySem.Spec PyProof.Rows
theorem tuple_mulOne (l : Addr) (items : Array Value) (n : Nat) (u : Tok) :
    Meets (Builtin.«tuple.__mul__» ⟨[.ref l, .int 1 u], []⟩) (fun _ R s => (∃ dd sl, s.heap.get? l = some { cls := .type "tuple", dict := dd, data := .seq items n, slots := sl }) ∧ R (.ok (.ret (.ref l))) s) :=
  .of_wp fun prog w A R s h => by
    obtain ⟨hp, g, d, tk, os⟩ := s
    obtain ⟨⟨dd, sl, hl⟩, h⟩ := h
    have f1 := AutoSeq1.idx_int
    have c0 : (decide ((1 : Int) < -(2 ^ 63)) || decide ((1 : Int) ≥ 2 ^ 63)) = false := by decide
    have c1 : (items.isEmpty || (1 : Int) == 1) = true := by rw [Bool.or_eq_true]; exact .inr rfl
    wp_walk using wpAny_loadPart' hl
    repeat (first
      | (refine wpAny_ite_false (decide_eq_false (by rw [c0]; exact Bool.false_ne_true)) ?_; wp_walk using wpAny_loadPart' hl)
      | (refine wpAny_ite_true (decide_eq_true c1) ?_; wp_walk using wpAny_loadPart' hl))
    all_goals exact ⟨_, rfl, h⟩
def rRepT1 (K : PySem.W.Frag) : R2 := fun x y H Q => ∃ l xs, x = .ref l ∧ y = .int 1 ∧ SqT K H l xs ∧ Q x H
section
variable {X : Cx}
theorem op_repT1 : OpR X (binaryOp .Mult) (rRepT1 X.K) := by
  intro pins s σ H x y v u Q I rx ry h
  obtain ⟨l, xs, rfl, rfl, hT, q⟩ := h
  cases rx
  obtain ⟨t, rfl⟩ := ry
  obtain ⟨its, r, ⟨⟨cls, dd, data, sl⟩, ho, hc, n, hd⟩, hs⟩ := I.tuple hT
  simp only at hc hd
  subst hc hd
  exact wpAny_binaryOp_repeat_ref (T := "tuple") (U := "int") (by decide) ⟨_, ho, rfl⟩ (fun s' => typeIs_int s' 1 t) noFill_tuple_mul F.fills_int_mul F.slot_int_rmul repeat_tuple F.slot_int_index.lookup
    (call_meets F.slot_int_rmul (typeIs_int s 1 t) F.entry_int_rmul (F.args_int_rmul_2 _ _) (int_rmul_tuple 1 t l its.toArray n dd sl)
      ⟨ho, rfl, ⟨_, ho, rfl⟩, call_meets F.slot_tuple_mul ⟨_, ho, rfl⟩ F.entry_tuple_mul (F.args_tuple_mul_2 _ _) (tuple_mulOne l its.toArray n t) ⟨⟨dd, sl, ho⟩, ⟨.ref l, H, I, rfl, q⟩⟩⟩)
def rRepA (K : PySem.W.Frag) : R2 := fun x y H Q => rRepT K x y H Q ∨ rRepT1 K x y H Q
theorem k_repA {K : PySem.W.Frag} (hK : X.K = K) : OpR X (binaryOp .Mult) (rRepA K) := hK ▸ op_repT.or op_repT1
/-- x[a:b], a list, a tuple, a text -/
def rSlAll (K : PySem.W.Frag) : V → Option Int → Option Int → Hp → VK → Prop := fun x lo hi H Q => rSlL K x lo hi H Q ∨ (fun x lo hi H Q => rSlA K x lo hi H Q ∨ rSlS x lo hi H Q) x lo hi H Q
theorem k_sl {K : PySem.W.Frag} (hK : X.K = K) : SlR X (rSlAll K) := hK ▸ sl_list.or (sl_tupA.or sl_str)
theorem k_ienumT {K : PySem.W.Frag} (hK : X.K = K) {e : Expr} {t : TA} {p pos tpos : Pos} {elts : List Expr} {kk : Nat} (hm : X.mg "enumerate" = none) (ha : PA X [e] t) (hg : Gl X "enumerate" := by rfl) (hs : starEach [e] X.env = [(false, eval e X.env)] := by rfl) :
    PI X (.Tuple elts kk tpos) (.Call (.Name "enumerate" p) [e] [] pos) (iEnumT K t) := hK ▸ pi_enumT hg hm ha hs
end
end L2
namespace Ew
open PySem PySem.Spec PyProof.Rows L2
def cutD {α : Type} (xs : List α) (lo hi : Option Int) : List α := (xs.drop (HT.sIx xs.length 0 lo)).take (HT.sIx xs.length xs.length hi - HT.sIx xs.length 0 lo)
section
variable {W : Wd} {Γ Γ' : Gam} {K : PySem.W.Frag} {T U A C P : Typ} {Ts Us : List Typ} {ds es : List PyData} {d : PyData} {ta : TA} {te tb : TE} {i j : Int} {N : Sx → Hp → Prop} {R : V → Hp → Prop} {Bk Ct : Sx → Hp → Prop} {tl th : TO} {lo hi : Option Int} {n m k : Nat}
def TyO (W : Wd) (Γ : Gam) (t : TO) (o : Option Int) : Prop := ∀ σ H, Cxt W H → EnvW W Γ σ H → ∀ Q : Option Int → Hp → Prop, (∀ H1, Ex W.B H H1 → Q o H1) → t σ H Q
theorem tyo_none : TyO W Γ tNoPart none := fun σ H c g Q q => q H (Ex.refl _ _)
theorem tyo_some (h : Ty W Γ te (dt K (.int i))) : TyO W Γ (tPart te) (some i) := fun σ H c g Q q => h σ H c g _ fun v H1 e hv => by
  cases hv
  exact ⟨i, rfl, q H1 e⟩
theorem RpA.drop' {M : Addr → Prop} {H : Hp} : ∀ {vs : List V} {ds : List PyData} (n : Nat), RpA M K H vs ds → RpA M K H (vs.drop n) (ds.drop n)
  | _, _, 0, h => h
  | _, _, _ + 1, .nil => .nil
  | _, _, n + 1, .cons _ r => RpA.drop' n r
theorem RpA.take' {M : Addr → Prop} {H : Hp} : ∀ {vs : List V} {ds : List PyData} (n : Nat), RpA M K H vs ds → RpA M K H (vs.take n) (ds.take n)
  | _, _, 0, _ => .nil
  | _, _, _ + 1, .nil => .nil
  | _, _, n + 1, .cons h r => .cons h (RpA.take' n r)
theorem RpA.cut {M : Addr → Prop} {H : Hp} {vs : List V} {ds : List PyData} (h : RpA M K H vs ds) (lo hi : Option Int) : RpA M K H (cutV vs lo hi) (cutD ds lo hi) := by
  unfold cutV cutD
  rw [h.length]
  exact (h.drop' _).take' _
theorem cut_whole {α : Type} {xs : List α} (h : HT.sIx xs.length 0 lo = 0 ∧ HT.sIx xs.length xs.length hi = xs.length) : cutD xs lo hi = xs := by
  unfold cutD
  rw [h.1, h.2, List.drop_zero, Nat.sub_zero, List.take_length]
theorem ty_slL (h : Ty W Γ te (dt K (.list ds))) (hl : TyO W Γ tl lo) (hh : TyO W Γ th hi) : Ty W Γ (tSl (rSlAll K) te tl th) (dt K (.list (cutD ds lo hi))) := fun σ H c g Q q =>
  h σ H c g _ fun v H1 e1 hv => hl σ H1 (c.up e1) (g.up e1.toW) _ fun H2 e2 => hh σ H2 (c.up (e1.trans e2)) (g.up (e1.trans e2).toW) _ fun H3 e3 => by
    have hv3 := Rp.up (e2.trans e3).toW hv
    cases hv3 with
    | lst h1 h2 h3 => exact .inl ⟨_, _, rfl, SqL.of h1, fun p hp => q _ _ ((e1.trans (e2.trans e3)).trans (Ex.new hp)) (.lst upd_same (c.nm ((e1.trans (e2.trans e3)).free hp)) (RpA.up (Ex.new (B := W.B) hp).toW (h3.cut lo hi)))⟩
theorem ty_slT (h : Ty W Γ te (dt K (.tuple ds))) (hl : TyO W Γ tl lo) (hh : TyO W Γ th hi) : Ty W Γ (tSl (rSlAll K) te tl th) (dt K (.tuple (cutD ds lo hi))) := fun σ H c g Q q =>
  h σ H c g _ fun v H1 e1 hv => hl σ H1 (c.up e1) (g.up e1.toW) _ fun H2 e2 => hh σ H2 (c.up (e1.trans e2)) (g.up (e1.trans e2).toW) _ fun H3 e3 => by
    have hv3 := Rp.up (e2.trans e3).toW hv
    have e13 := e1.trans (e2.trans e3)
    cases hv3 with
    | @tup a xs _ h1 h3 =>
      refine .inr (.inl ⟨_, _, rfl, h1, fun w => q _ _ e13 ?_, fun _ p hp => q _ _ (e13.trans (Ex.new hp)) (.tup (SqT.of upd_same) (RpA.up (Ex.new (B := W.B) hp).toW (h3.cut lo hi)))⟩)
      rw [h3.length] at w
      rw [cut_whole w]
      exact .tup h1 h3
theorem ty_slS {z : Str} (hz : z.length ≤ 1000000) (h : Ty W Γ te (dt K (.str z))) (hl : TyO W Γ tl lo) (hh : TyO W Γ th hi) : Ty W Γ (tSl (rSlAll K) te tl th) (dt K (.str (cutS z lo hi))) := fun σ H c g Q q =>
  h σ H c g _ fun v H1 e1 hv => hl σ H1 (c.up e1) (g.up e1.toW) _ fun H2 e2 => hh σ H2 (c.up (e1.trans e2)) (g.up (e1.trans e2).toW) _ fun H3 e3 => by
    have hv3 := Rp.up (e2.trans e3).toW hv
    have e13 := e1.trans (e2.trans e3)
    cases hv3 with
    | str => exact .inr (.inr ⟨z, rfl, sz_le hz, q _ _ e13 (.str _)⟩)
theorem opt_ixS {z : Str} {c : Nat} (hz : z.length ≤ 1000000) (e : atI z.cps.toList i = some c) : OpT W (rIx K) (dt K (.str z)) (dt K (.int i)) (dt K (.str ⟨#[c]⟩)) := fun u v H cx hu hv Q q => by
  cases hu
  cases hv
  exact .inr (.inr ⟨z, i, c, rfl, rfl, sz_le hz, e, q _ H (Ex.refl _ _) (.str _)⟩)
/-- tuple * int -/
theorem opt_repA (h0 : 1 ≤ j) (h1 : j ≤ 1000) (hn : ds ≠ []) (hz : ds.length ≤ 1000) : OpT W (rRepA K) (dt K (.tuple ds)) (dt K (.int j)) (dt K (.tuple (List.replicate j.toNat ds).flatten)) := fun u v H c hu hv Q q => by
  by_cases e : j = 1
  · subst e
    cases hv
    cases hu with
    | @tup a xs _ h2 h3 =>
      refine .inr ⟨a, xs, rfl, rfl, h2, q _ H (Ex.refl _ _) ?_⟩
      have e2 : (List.replicate (1 : Int).toNat ds).flatten = ds := by
        show (List.replicate 1 ds).flatten = ds
        simp
      rw [e2]
      exact .tup h2 h3
  · exact .inl (opt_repT (by omega) h1 hn hz u v H c hu hv Q q)
/-! ### enumerate of a tuple -/
theorem walk_enumT {a : Addr} {xs : List V} : Walk (IteT K a) xs.length (fun H => SqT K H a xs) (YPair (fun i => some (.int (i : Nat))) (fun i => xs[i]?)) := by
  refine ⟨fun i _ hi q => ⟨xs, xs[i], q, by simp⟩, fun _ q => ⟨xs, q, Nat.le_refl _⟩, fun i H v H' _ q y => ?_⟩
  obtain ⟨T, x, h1, h2, h3, h4⟩ := y
  exact ⟨T, _, x, h1, h2, h3, rfl, h4 xs q⟩
theorem tyi_enumT (h : TyA W Γ ta [tupT K Ts]) : TyI W Γ (iEnumT K ta) ((List.range Ts.length).map fun i => tupT K [dt K (.int (i : Nat)), Ts.getD i (isV .non)]) := fun σ H c g R q => h σ H c g _ fun us H1 e hu => by
  obtain ⟨v, rfl, a, xs, rfl, h2, h3⟩ := hu.one
  refine ⟨a, xs, rfl, h2, q _ H1 e ⟨fun H => SqT K H a xs, YPair (fun i => some (.int (i : Nat))) (fun i => xs[i]?), by rw [List.length_map, List.length_range, ← h3.length]; exact walk_enumT, h2, fun M' m => ⟨fun Ha Hb f z => f.sqT z, fun i Ha x Hb T hT f z y => ?_⟩⟩⟩
  obtain ⟨Tp, x0, y0, rfl, hn, rfl, ex, ey⟩ := y
  cases ex
  obtain ⟨hl, rfl⟩ := range_map_get hT
  obtain ⟨w, h4, h5⟩ := (m.tys h3).get (List.getElem?_eq_getElem hl)
  have ey' := h4.symm.trans ey
  cases ey'
  refine ⟨Ex.new hn, Tp, _, rfl, SqT.of upd_same, .int _, ?_, True.intro⟩
  show (Ts.getD i (isV .non)).p M' W.B y0 _
  rw [List.getD_eq_getElem?_getD, List.getElem?_eq_getElem hl]
  exact Typ.up _ (f.trans ((Ex.new (B := W.B) hn).toM m.sub)) h5
/-! ### several names at once -/
theorem tys_par (h : TyA W Γ ta [A, C]) : TyS W Γ (tPar n m ta) (nE W ((Γ.set n (some A)).set m (some C))) R Bk Ct := fun σ H c g D dn _ _ _ => h σ H c g _ fun us H1 e hu => by
  obtain ⟨v, w, rfl, h1, h2⟩ := hu.two
  exact ⟨v, w, rfl, dn _ H1 e.toW ⟨c.up e, EnvL.set h2 (EnvL.set h1 (g.up e.toW))⟩⟩
theorem tys_par3 (h : TyA W Γ ta [A, C, P]) : TyS W Γ (tPar3 n m k ta) (nE W (((Γ.set n (some A)).set m (some C)).set k (some P))) R Bk Ct := fun σ H c g D dn _ _ _ => h σ H c g _ fun us H1 e hu => by
  match us, hu with
  | [u, v, w], hu => exact ⟨u, v, w, rfl, dn _ H1 e.toW ⟨c.up e, EnvL.set hu.2.2.1 (EnvL.set hu.2.1 (EnvL.set hu.1 (g.up e.toW)))⟩⟩
/-- x = e or a, b = e by a target -/
theorem tys_asg {g : TG} (h : Ty W Γ te T) (hg : TyG W Γ g T Γ') : TyS W Γ (tAsg te g) (nE W Γ') R Bk Ct := fun σ H c e D dn _ _ _ => h σ H c e _ fun v H1 e1 hv =>
  hg v σ H1 (c.up e1) (e.up e1.toW) hv _ fun σ' H' e2 g' => dn σ' H' (e1.trans e2).toW ⟨c.up (e1.trans e2), g'⟩
/-- what just is known to be there is opened -/
theorem TyS.openX {α : Type} {A : α → Typ} {ts : TS} {n : Nat} (hn : Γ[n]? = some (some (exT A))) (h : ∀ x, TyS W (Γ.set n (some (A x))) ts N R Bk Ct) : TyS W Γ ts N R Bk Ct := fun σ H c g => by
  obtain ⟨v, h1, x, h2⟩ := g.get hn
  refine h x σ H c ?_
  have z := EnvL.set (T := A x) (i := n) h2 g
  have e : σ.set n (some v) = σ := by
    apply List.ext_getElem?
    intro i
    by_cases hi : n = i
    · subst hi
      rw [List.getElem?_set_self (List.getElem?_eq_some_iff.mp h1).1, h1]
    · rw [List.getElem?_set_ne hi]
  rw [e] at z
  exact z
theorem TyS.openG {φ : Prop} {ts : TS} {n : Nat} (hn : Γ[n]? = some (some (gd φ A))) (h : φ → TyS W (Γ.set n (some A)) ts N R Bk Ct) : TyS W Γ ts N R Bk Ct := fun σ H c g => by
  obtain ⟨v, h1, f, h2⟩ := g.get hn
  refine h f σ H c ?_
  have z := EnvL.set (T := A) (i := n) h2 g
  have e : σ.set n (some v) = σ := by
    apply List.ext_getElem?
    intro i
    by_cases hi : n = i
    · subst hi
      rw [List.getElem?_set_self (List.getElem?_eq_some_iff.mp h1).1, h1]
    · rw [List.getElem?_set_ne hi]
  rw [e] at z
  exact z
end
end Ew

end
section
set_option Elab.async false
set_option linter.all false
set_option maxRecDepth 100000
set_option maxHeartbeats 2000000
/-! EwP: dicts of one entry. -/
namespace Ew
open PySem PySem.Spec PyProof.Rows L2
theorem hu1 {a : Nat} (h : a + 64 < cLine) : a + 1 < cLine := by omega
def rLenA (K : PySem.W.Frag) : List V → Hp → VK → Prop := fun xs H Q => rLen K xs H Q ∨ ∃ a kvs, xs = [V.ref a] ∧ H a = some (.dK kvs) ∧ Q (.int (kvs.length : Nat)) H
section
variable {X : Cx} {e : Expr} {es : List Expr} {t : TA} {p pos : Pos}
theorem k_lenA {K : PySem.W.Frag} (hK : X.K = K) (m : X.mg "len" = none) (ha : PA X (e :: es) t) (hg : Gl X "len" := by rfl) (he : starEach (e :: es) X.env = (false, eval e X.env) :: starEach es X.env := by rfl) (hpl : (backTo pos (starEach es X.env)).any (·.1) = false := by rfl) :
    PE X (.Call (.Name "len" p) (e :: es) [] pos) (tCB (rLenA K) t) := hK ▸ pe_callB (CallR.or call_len call_lenD) hg m PySem.boot_len ha (by decide) (by decide) he hpl
end
section
variable {W : Wd} {Γ Γ' : Gam} {K : PySem.W.Frag} {As : List Typ} {P : Typ} {te tb : TE} {tt : TT} {i : Int} {x : Str} {kvs : List (PyData × PyData)}
theorem cbt_lenA (h : CbT W (rLen K) As P) : CbT W (rLenA K) As P := fun us H c hu Q q => .inl (h us H c hu Q q)
theorem RpK.length {M : Addr → Prop} {H : Hp} : ∀ {vs : List (Key × V)} {ds : List (PyData × PyData)}, RpK M K H vs ds → vs.length = ds.length
  | _, _, .nil => rfl
  | _, _, .cons _ r => by rw [List.length_cons, List.length_cons, RpK.length r]
theorem cbt_lenDict : CbT W (rLenA K) [dt K (.dict kvs)] (dt K (.int (kvs.length : Nat))) := fun us H c hu Q q => by
  obtain ⟨v, rfl, h⟩ := hu.one
  cases h with
  | dic h1 h2 => exact .inr ⟨_, _, rfl, h1, q _ H (Ex.refl _ _) (by rw [RpK.length h2]; exact .int _)⟩
/-- {x: i} -/
theorem ty_disp1 {tk tv : TE} (hk : Ty W Γ tk (dt K (.str x))) (hv : Ty W Γ tv (dt K (.int i))) : Ty W Γ (tDisp [(tk, tv)]) (dt K (.dict [(.str x, .int i)])) := fun σ H c g Q q => fun p hp => by
  have e0 : Ex W.B H (upd H p (.dK [])) := Ex.new hp
  refine hk σ _ (c.up e0) (g.up e0.toW) _ fun u H1 e1 h1 => hv σ H1 (c.up (e0.trans e1)) (g.up (e0.trans e1).toW) _ fun v H2 e2 h2 => ?_
  cases h1
  cases h2
  have hp2 : H2 p = some (.dK []) := e2.keepT (e1.keepT upd_same fun _ z => nomatch z) fun _ z => nomatch z
  refine ⟨hp2, [(.inr x, .int i)], rfl, (by show 1 ≤ 15; decide), q _ _ ((e0.trans (e1.trans e2)).mut hp) (.dic upd_same (.cons (.int i) .nil))⟩
end
end Ew

end
section
set_option Elab.async false
set_option linter.all false
set_option maxRecDepth 100000
set_option maxHeartbeats 1000000
/-! EwW: while by types; a list of one's own that grows. -/
namespace Ew
open PySem PySem.Spec PyProof.Rows L2
section
variable {W : Wd} {Γ Γ' : Gam} {K : PySem.W.Frag} {T : Typ} {Ts : List Typ} {te : TE} {tt : TT} {tb tw : TS} {i : Nat} {N : Sx → Hp → Prop} {R : V → Hp → Prop} {Bk Ct : Sx → Hp → Prop}
/-- while: before a turn the slots are Γi x, for some x with I; m falls -/
theorem tys_while {α : Type} (I : α → Prop) (Γi : α → Gam) (m : α → Nat) (x0 : α) (i0 : I x0) (h0 : ∀ σ H, nE W Γ σ H → nE W (Γi x0) σ H)
    (hs : ∀ x, I x → ∃ φ : Bool → Prop, Tt W (Γi x) tt φ ∧ (φ true → TyS W (Γi x) tb (fun σ H => ∃ y, I y ∧ m y < m x ∧ nE W (Γi y) σ H) R N (fun σ H => ∃ y, I y ∧ m y < m x ∧ nE W (Γi y) σ H)) ∧ (φ false → ∀ σ H, nE W (Γi x) σ H → N σ H)) :
    TyS W Γ (tWhile tt tb) N R Bk Ct := fun σ H c g D dn dr db dc => by
  refine ⟨fun n σ1 H1 => ∃ x, I x ∧ m x = n ∧ nE W (Γi x) σ1 H1 ∧ Exm W.M W.B H H1, ⟨m x0, x0, i0, rfl, h0 σ H ⟨c, g⟩, Exm.refl _ _ _⟩, ?_⟩
  rintro n σ1 H1 ⟨x, ix, rfl, n1, e1⟩
  obtain ⟨φ, ht, hy, hn⟩ := hs x ix
  refine ht σ1 H1 n1.1 n1.2 _ fun b H2 e2 hb => ?_
  have c2 := n1.1.up e2
  have g2 := n1.2.up e2.toW
  have e12 := e1.trans e2.toW
  cases b with
  | true =>
    rw [if_pos rfl]
    refine ⟨fun σ' H' => ∃ y, I y ∧ m y < m x ∧ nE W (Γi y) σ' H' ∧ Exm W.M W.B H H', fun σ' H' ⟨y, iy, ly, ny, ey⟩ => ⟨m y, ly, y, iy, rfl, ny, ey⟩, ?_⟩
    exact hy hb σ1 H2 c2 g2 _ (fun σ' H' e3 ⟨y, iy, ly, ny⟩ => ⟨y, iy, ly, ny, e12.trans e3⟩) dr (fun σ' H' e3 n3 => dn σ' H' (e12.trans e3) n3) (fun σ' H' e3 ⟨y, iy, ly, ny⟩ => ⟨y, iy, ly, ny, e12.trans e3⟩)
  | false =>
    rw [if_neg Bool.false_ne_true]
    exact dn σ1 H2 e12 (hn hb σ1 H2 ⟨c2, g2⟩)
end
/-! ### a list of one's own -/
/-- the list at D holds values of the types Ts -/
def Wd.own (W : Wd) (D : Addr) (nb : ¬ W.B D) (Ts : List Typ) : Wd := ⟨Ew.ad W.M D, W.B, W.H0, fun H => (∃ H1, W.Ω H1 ∧ H1 D = none ∧ Ex W.B H1 H) ∧ W.H0 D = none ∧ ∃ xs, H D = some (.lst xs) ∧ TysV (Ew.ad W.M D) W.B Ts xs H, fun a h => .inl (W.sub a h),
  fun e ⟨⟨H1, z1, z2, z3⟩, h0, xs, h1, h2⟩ => ⟨⟨H1, z1, z2, z3.trans e⟩, h0, xs, e.keep h1 nb, h2.up (e.toM fun a h => .inl (W.sub a h))⟩⟩
section
variable {W : Wd} {Γ Γ' : Gam} {K : PySem.W.Frag} {T U : Typ} {Ts : List Typ} {te ta : TE} {tw : TS} {i : Nat} {N : Sx → Hp → Prop} {R : V → Hp → Prop} {Bk Ct : Sx → Hp → Prop} {D : Addr} {nb : ¬ W.B D}
/-- found = [], then the rest -/
theorem tys_own (h : TyL W Γ te []) (hb : ∀ D (nb : ¬ W.B D), ¬ W.M D → TyS (W.own D nb []) (Γ.set i (some (isV (.ref D)))) tw noN R noN noN) : TyS W Γ (tSeq (tAsg te (gName i)) tw) noN R Bk Ct := fun σ H c g E dn dr db dc =>
  h σ H c g _ fun p xs H1 e hp h1 h2 => by
    have nm : ¬ W.M p := c.nm hp
    have nb : ¬ W.B p := c.nb hp
    have c1 := c.up e
    have c2 : Cxt (W.own p nb []) H1 := ⟨c1.box, fun a z => z.elim (c1.al a) (fun w => by rw [w, h1]; intro q; cases q), c1.ex, ⟨H, c.own, hp, e⟩, c.ex.free hp, xs, h1, by
      match xs, h2 with
      | [], _ => exact True.intro⟩
    have g1 : EnvL (Ew.ad W.M p) W.B Γ σ H1 := (EnvL.weak hp g).up (e.toM fun a h => .inl (W.sub a h))
    exact hb p nb nm _ H1 c2 (EnvL.set (T := isV (.ref p)) rfl g1) E (fun _ _ _ z => z.elim) dr (fun _ _ _ z => z.elim) (fun _ _ _ z => z.elim)
/-- what a def hands back out of the wider world -/
theorem tys_retO (h : Ty (W.own D nb Ts) Γ te T) : TyS (W.own D nb Ts) Γ (tRet te) noN (rW W T) Bk Ct := tys_ret h fun v H c k => ⟨c.ex, T.drop k⟩
/-- the list is done: from here on it is a list as any other -/
theorem tys_fin (hi : Γ[i]? = some (some (isV (.ref D)))) (nm : ¬ W.M D) (h : TyS W (Γ.set i (some (lstT Ts))) tw noN R noN noN) : TyS (W.own D nb Ts) Γ tw noN R Bk Ct := fun σ H c g E dn dr db dc => by
  obtain ⟨v, h1, h2⟩ := g.get hi
  have hv : v = .ref D := h2
  subst hv
  obtain ⟨⟨H1, o1, o2, o3⟩, _, xs, o4, o5⟩ := c.own
  have c1 : Cxt W H := ⟨c.box, fun a z => c.al a (.inl z), c.ex, W.kept o3 o1⟩
  have g1 : EnvL W.M W.B Γ σ H := EnvL.drop g
  have z := EnvL.set (T := lstT Ts) (i := i) (v := .ref D) ⟨D, xs, rfl, nm, o4, o5.drop⟩ g1
  have e : σ.set i (some (V.ref D)) = σ := by
    apply List.ext_getElem?
    intro j
    by_cases hj : i = j
    · subst hj
      rw [List.getElem?_set_self (List.getElem?_eq_some_iff.mp h1).1, h1]
    · rw [List.getElem?_set_ne hj]
  rw [e] at z
  exact h σ H c1 z E (fun _ _ _ z => z.elim) dr (fun _ _ _ z => z.elim) (fun _ _ _ z => z.elim)
/-- the own list's new state -/
theorem own_put {Us : List Typ} {H : Hp} {xs ys : List V} (c : Cxt (W.own D nb Ts) H) (h : H D = some (.lst xs)) (hy : TysV (Ew.ad W.M D) W.B Us ys (upd H D (.lst ys))) : Cxt (W.own D nb Us) (upd H D (.lst ys)) ∧ Exm (W.own D nb Ts).M (W.own D nb Ts).B H (upd H D (.lst ys)) := by
  have put : Exm (Ew.ad W.M D) W.B H (upd H D (.lst ys)) := Exm.put (.inr rfl) nb h
  obtain ⟨⟨H1, o1, o2, o3⟩, o0, _, _, _⟩ := c.own
  refine ⟨⟨fun a z => put.box z (c.box a z), fun a z q => ?_, c.ex.mut o0, ⟨H1, o1, o2, o3.mut o2⟩, o0, ys, upd_same, hy⟩, put⟩
  by_cases ea : a = D
  · rw [ea, upd_same] at q; cases q
  · rw [upd_ne ea] at q; exact c.al a z q
/-- found.append(e) -/
theorem tys_append (hi : Γ[i]? = some (some (isV (.ref D)))) (h : Ty (W.own D nb Ts) Γ te T) (hz : Ts.length < 1000000) : TyS (W.own D nb Ts) Γ (tDrop (tBM K "list" rAppend (tVar i) (tCons te tNil))) (nE (W.own D nb (Ts ++ [T])) Γ) R Bk Ct := fun σ H c g E dn dr db dc => by
  obtain ⟨v, h1, h2⟩ := g.get hi
  have hv : v = .ref D := h2
  subst hv
  obtain ⟨_, _, xs0, q0, _⟩ := c.own
  refine ⟨.ref D, h1, .inl ⟨rfl, _, SqL.of q0⟩, h σ H c g _ fun y H2 e hy => ?_⟩
  have c2 := c.up e
  obtain ⟨_, _, xs, q1, q2⟩ := c2.own
  have put : Exm (Ew.ad W.M D) W.B H2 (upd H2 D (.lst (xs ++ [y]))) := Exm.put (.inr rfl) nb q1
  have w := own_put (nb := nb) (Ts := Ts) (Us := Ts ++ [T]) (ys := xs ++ [y]) c2 q1 ((q2.append (show TysV (Ew.ad W.M D) W.B [T] [y] H2 from ⟨hy, True.intro⟩)).up put)
  exact ⟨D, xs, y, rfl, rfl, q1, by rw [q2.length]; exact sz_lt hz, dn σ _ (e.toW.trans w.2) ⟨w.1, (g.up e.toW).up w.2⟩⟩
end
end Ew

end
section
set_option Elab.async false
set_option linter.all false
set_option maxRecDepth 100000
set_option maxHeartbeats 2000000
/-! EwN: an own exception whose own __init__ calls the base class's own __init__ through super(), then keeps a second field, count. -/
namespace PySem
namespace WrX
open PySem.W PySem.Calls PyProof.Rows PySem.HandSPX
/-! ### the text: def __init__(self, count): super().__init__(count); self.count = count -/
def jA (p1 p2 : Pos) : Arguments := { posonlyargs := [], args := [{ arg := "self", annotation := none, pos := p1 }, { arg := "count", annotation := none, pos := p2 }], vararg := none, kwonlyargs := [], kw_defaults := [], kwarg := none, defaults := [] }
def jB (q1 q2 q3 q4 q5 q6 q7 q8 q9 q10 : Pos) : List Stmt := [.Expr (.Call (.Attribute (.Call (.Name "super" q1) [] [] q2) "__init__" q3) [.Name "count" q4] [] q5) q6, .Assign [.Attribute (.Name "self" q7) "count" q8] (.Name "count" q9) q10]
def jS : Scope := { kind := .function, names := [(PySem.Str.ofString "self", .local), (PySem.Str.ofString "count", .local), (PySem.Str.ofString "__class__", .free), (PySem.Str.ofString "super", .globalImplicit)], isGenerator := false, isCoroutine := false, more := [] }
/-- the own __init__ at fJ of the class C (a ClsTxt) over D -/
structure OwnTxt (prog : Program) (K : Frag) (qn : Str) (D fI C fJ : Addr) : Prop where
  fn : ∃ (oc : Value) (od : Option Addr) (kV doc pm : Value) (an : Option Addr) (cda cc : Addr) (ct : Value) (osl : Array (Option Value)) (p1 p2 q1 q2 q3 q4 q5 q6 q7 q8 q9 q10 : Pos) (ccl cl : Value) (cdd cld : Option Addr) (vs : Array Value) (ccs csl : Array (Option Value)) (file : Str) (tf : Tok),
    K.lookup fJ = some ⟨oc, od, .func (ksFn "__init__" qn (jA p1 p2) (jB q1 q2 q3 q4 q5 q6 q7 q8 q9 q10) jS .none kV doc pm an (.ref cda) ct cc), osl⟩ ∧ codeIn K (.ref cda) qn = true ∧
    K.lookup cda = some ⟨ccl, cdd, .fields vs, ccs⟩ ∧ vs[2]? = some (.str file tf) ∧ ((prog.main.file : Str) == file) = true ∧ K.lookup cc = some ⟨cl, cld, .cell (some (.ref C)), csl⟩ ∧ (q3.endLine == q5.line) = true
  noN : findIn K (.ref C) "count" = some none
  al : alongIn K "__init__" (.ref D :: veTail) = some (some (.ref fI))
  tI : typeIn K (.ref fI) = some (.type "function")
  fI : fnIn K fI = true
theorem mro_self {K : Frag} {C : Addr} {cd : ClassData} {l : List Value} (hcd : clsIn K C = some cd) (hm : cd.mro = .ref C :: l) : mroIn K C (.ref C) = some true := by
  unfold mroIn
  rw [hcd, Option.bind_some, hm, if_neg (show ¬ (List.isEmpty (Value.ref C :: l) = true) from Bool.false_ne_true)]
  simp
theorem drop_self (C : Addr) (l : List Value) : ((Value.ref C :: l).dropWhile (· != .ref C)).drop 1 = l := by
  rw [List.dropWhile_cons, if_neg (by simp)]
  rfl
/-- what the own __init__ leaves -/
structure OwnEnd (h h' : Heap) (x C dx t1 : Addr) (v : Value) : Prop where
  keep : ∀ b o, b ≠ x → h.get? b = some o → h'.get? b = some o
  obj : h'.get? x = some { cls := .ref C, dict := some dx, data := .fields #[.ref t1, .none, .none, .none, .bool false, .none] }
  dbig : h.objs.size ≤ dx
  dne : dx ≠ x
  ns : h'.Ns1 dx (fun y => if y = "count" then some v else if y = "given" then some v else none)
/-- a made one -/
structure OwnMade2 (h h' : Heap) (e C d : Addr) (v : Value) : Prop where
  keep : ∀ b o, h.get? b = some o → h'.get? b = some o
  new : h.objs.size ≤ e
  obj : ∃ oe vs, h'.get? e = some oe ∧ oe.cls = .ref C ∧ oe.dict = some d ∧ oe.data = .fields vs ∧ vs[1]? = some .none
  dbig : h.objs.size ≤ d
  dne : d ≠ e
  ns : h'.Ns1 d (fun y => if y = "count" then some v else if y = "given" then some v else none)
section
variable {prog : Program} {w : World} {A : Around} {E : Value → Shared → Prop} {R : Result → Shared → Prop} {s : Shared} {K : Frag} {mg mb : Str → Option Value} {C D fI fJ : Addr} {qn : Str}
theorem callWith_N {M : Model} {pos : Pos} {env : Env} {q g : Addr} {self : Value} {e : Expr} {rest : List Expr} {Q : Value → Shared → Prop} (hf : fnIn K g = true) (h : wpAny M A (spliced (backTo pos (starEach (e :: rest) env))) (fun vs s₁ => MethP K q g self s₁.heap ∧ wpAny M A (call (.ref q) vs) Q E s₁) E s)
    (he : starEach (e :: rest) env = (false, eval e env) :: starEach rest env := by rfl) (hplain : (backTo pos (starEach rest env)).any (·.1) = false := by rfl) :
    wpAny M A (callWith pos (.ref q) [] (backTo pos (starEach (e :: rest) env)) []) Q E s := by
  rw [he] at h ⊢
  exact callWith_of (by show ((false || (backTo pos (starEach rest env)).any (·.1)) || false) = false; rw [hplain]; rfl) (keeps_M hf) (evalArgs_plain h)
theorem own_init {nm : Str} (Bt : BaseTxt prog K mg D fI) (T : ClsTxt K mg nm D fJ C) (J : OwnTxt prog K qn D fI C fJ) {x t0 : Addr} {v : Value} (X : K.In s.heap) (hlim : s.heap.NoLimit) (G : s.heap.Ns mainGlobals mg) (GB : ∃ mb, s.heap.Ns builtinsNs mb ∧ ∀ x : Str, x ≠ "__name__" → mb x = bootBuiltins x)
    (hx : s.heap.get? x = some (excO C t0)) (hnx : K.lookup x = none) (hroom : A.depth + 3 < recursionLimit)
    (hq : ∀ h' tk dx t1, OwnEnd s.heap h' x C dx t1 v → R (.ok (.ret .none)) { s with heap := h', toks := tk }) :
    codeAny (model prog w) A (.call (.ref fJ) ⟨[.ref x, v], []⟩) R s := by
  obtain ⟨oc, od, kV, doc, pm, an, cda, cc, ct, osl, p1, p2, q1, q2, q3, q4, q5, q6, q7, q8, q9, q10, ccl, cl, cdd, cld, vs, ccs, csl, file, tf, ho, hcd, hcode, hvs, hfile, hcell, hline⟩ := J.fn
  obtain ⟨nm', q, N, bs, sn, sub, ab, col, dd, k0, k1, k2, k3, k5, hC⟩ := T.cls
  have hcl : clsIn K C = some { name := nm', bases := bs, mro := .ref C :: .ref D :: veTail, ns := N, qualname := q, hasDict := true, slotNames := sn, subclasses := sub, abstract := ab, collection := col, hasDel := false } := by unfold clsIn; rw [hC] <;> rfl
  obtain ⟨mb, hbn, hbm⟩ := GB
  obtain ⟨hp, g, d, t, os⟩ := s
  have hxC : x ≠ C := fun z => by rw [z, hC] at hnx; cases hnx
  refine ks_codeAny_call_defAt (fd := ksFn "__init__" qn (jA p1 p2) (jB q1 q2 q3 q4 q5 q6 q7 q8 q9 q10) jS .none kV doc pm an (.ref cda) ct cc) (body := jB q1 q2 q3 q4 q5 q6 q7 q8 q9 q10) (binds := [("self", .ref x), ("count", v)])
    (by omega) (X _ _ ho) rfl hlim (codeRec_of X hcd) rfl (.of_eq rfl) ?cell ?loc (fun h₁ hns₁ k₁ => ?_) rfl rfl rfl
  case cell =>
    intro y hy
    rcases List.mem_cons.mp hy with rfl | hy
    · exact fun z => by cases z
    rcases List.mem_cons.mp hy with rfl | hy
    · exact fun z => by cases z
    rcases List.mem_cons.mp hy with rfl | hy
    · exact fun z => by cases z
    rcases List.mem_cons.mp hy with rfl | hy
    · exact fun z => by cases z
    cases hy
  case loc =>
    intro y hy
    rcases List.mem_cons.mp hy with rfl | hy
    · rfl
    rcases List.mem_cons.mp hy with rfl | hy
    · rfl
    cases hy
  have X₁ : K.In h₁ := X.keeps k₁
  have hx₁ := k₁ _ _ hx
  have hxL : hp.objs.size ≠ x := Nat.ne_of_gt (Heap.lt_size hx)
  have hC₁ := X₁ _ _ hC
  show _root_.PySem.wpAt (model prog w) _ (.func (jB q1 q2 q3 q4 q5 q6 q7 q8 q9 q10) (ksEnv qn jS hp.objs.size fJ (.ref cda) cc)) (execs (jB q1 q2 q3 q4 q5 q6 q7 q8 q9 q10) (ksEnv qn jS hp.objs.size fJ (.ref cda) cc)) _ _ _
  refine ks_wpAt_execs_cons ?_
  refine ks_wpAt_Expr_any ?_
  refine ks_wpAt_MethodCall (pl := L2.plainOf (.Call (.Name "super" q1) [] [] q2) (ksEnv qn jS hp.objs.size fJ (.ref cda) cc)) ?_ (he_line hline)
  refine (ks_wpAt_super_base (env := ksEnv qn jS hp.objs.size fJ (.ref cda) cc) rfl rfl (by decide) rfl (X₁ _ _ ho) rfl rfl rfl (X₁ _ _ hcode) rfl hvs hfile Bt.top ?_)
  refine ks_loadName_global rfl rfl (loadGlobal_builtin (env := ksEnv qn jS hp.objs.size fJ (.ref cda) cc) (G.keeps k₁) Bt.mS (hbn.keeps k₁) ((hbm _ (by decide)).trans boot_super) ⟨rfl, ?_⟩)
  refine wpAny_loadName_free rfl rfl rfl ⟨_, X₁ _ _ hcell, rfl⟩ ?_
  refine wpAny_loadName_local (v := .ref x) rfl rfl hns₁ rfl ?_
  refine ks_wpAny_isType_cls hC₁ rfl ⟨rfl, ?_⟩
  refine ks_wpAny_call_super hC₁ rfl hx₁ rfl (fun c e => by cases e) (looks_mroIn X₁ (mro_self hcl rfl)) (fun h₂ hso k₂ => ?_)
  have X₂ : K.In h₂ := X₁.keeps k₂
  have hx₂ := k₂ _ _ hx₁
  obtain ⟨of, hof, hofc⟩ : ∃ of, h₂.get? fI = some of ∧ of.cls = .type "function" := by
    have ht' : (K.lookup fI).map (·.cls) = some (.type "function") := J.tI
    cases z : K.lookup fI with
    | none => rw [z] at ht'; cases ht'
    | some of => rw [z] at ht'; exact ⟨of, X₂ _ _ z, Option.some.inj ht'⟩
  refine ks_wpAny_getMethod_super hso (looks_opaque X₂ Bt.any) (l₀ := .ref C :: .ref D :: veTail) (fun A Q E s k q => wpAny_bind ((looks_clsIn X₂ hcl) A _ E s k (wpAny_pure q))) (drop_self _ _) X₂ J.al hof hofc hxC (by decide) ?_
  have k₃ : ∀ b o, h₂.get? b = some o → (h₂.push (methodObj (.ref fI) (.ref x))).get? b = some o := fun b o e => Heap.get?_push_of_some _ e
  have hu : (h₂.push (methodObj (.ref fI) (.ref x))).get? h₂.objs.size = some (methodObj (.ref fI) (.ref x)) := Heap.get?_push_at rfl rfl
  have hns₃ := (hns₁.keeps k₂).keeps k₃
  have X₃ : K.In (h₂.push (methodObj (.ref fI) (.ref x))) := X₂.keeps k₃
  refine callWith_N (q := h₂.objs.size) (self := .ref x) J.fI ?_
  refine spliced_more ?_
  refine ksLd (v := v) hns₃ rfl ?_
  refine spliced_none ⟨⟨hu, X₃⟩, ?_⟩
  have k03 : ∀ b o, hp.get? b = some o → (h₂.push (methodObj (.ref fI) (.ref x))).get? b = some o := fun b o e => k₃ b o (k₂ b o (k₁ b o e))
  refine wpAny_call (method_call hu ?_)
  refine we_init (s := ⟨_, g, d, _, os⟩) Bt T X₃ (hlim.keeps k03) (G.keeps k03) ⟨mb, hbn.keeps k03, hbm⟩ (k03 _ _ hx) hnx ?_ fun h₄ tk₄ dx t1 ⟨k₄, hx₄, dn, dne, hns⟩ => ?_
  · show _ < recursionLimit
    first
      | (show A.depth + 1 < recursionLimit; omega)
      | (show A.depth + 2 < recursionLimit; omega)
      | (simp only [Around.deeper]; omega)
  have k04 : ∀ b o, b ≠ x → hp.get? b = some o → h₄.get? b = some o := fun b o hb e => k₄ b o hb (k03 b o e)
  have X₄ : K.In h₄ := kept_but X hnx k04
  have hns₄ : h₄.Ns hp.objs.size (fun y => List.lookup y [(PySem.Str.ofString "self", Value.ref x), (PySem.Str.ofString "count", v)].reverse) := by
    obtain ⟨oL, es, ep, hL, r⟩ := hns₃
    exact ⟨oL, es, ep, k₄ _ _ hxL hL, r⟩
  -- self.count = count
  refine ks_wpAt_execs_cons (_root_.PySem.wpAt_of_wpAny (plainObj_wpAny_Assign_Attribute ?_))
  refine ksLd (v := v) hns₄ rfl (ksLd (v := .ref x) hns₄ rfl ?_)
  have hw : Within (fun y => if y = "given" then some v else none) ["given"] := Within.cons "given" v Within.nil
  obtain ⟨oD, esD, epD, hoD, hdD, _⟩ := hns.count hw
  refine set_plain X₄ (ox := { cls := .ref C, dict := some dx, data := .fields #[.ref t1, .none, .none, .none, .bool false, .none] }) (od := some oD) ⟨hx₄, rfl, rfl, hoD⟩ T.sa ?_
  refine PySem.OEX.osa_old X₄ hx₄ hns hw (by decide) hcl (refs_two C D) rfl J.noN (fun h₅ tk₅ k₅ hn₅ => ?_)
  have dbig : hp.objs.size ≤ dx := Nat.le_trans (by
    obtain ⟨oL, es, ep, hL, r⟩ := hns₃
    exact Nat.le_of_lt (Heap.lt_size hL)) dn
  refine _root_.PySem.wpAt_of_wpAny (wpAny_execs_nil (hq h₅ tk₅ dx t1 ⟨fun b o hb e => k₅ b o (Nat.ne_of_lt (Nat.lt_of_lt_of_le (Heap.lt_size e) dbig)) (k04 b o hb e), k₅ _ _ dne.symm hx₄, dbig, dne, hn₅⟩))
theorem own_made {nm : Str} (Bt : BaseTxt prog K mg D fI) (T : ClsTxt K mg nm D fJ C) (J : OwnTxt prog K qn D fI C fJ) {v : Value} (X : K.In s.heap) (hlim : s.heap.NoLimit) (G : s.heap.Ns mainGlobals mg) (GB : ∃ mb, s.heap.Ns builtinsNs mb ∧ ∀ x : Str, x ≠ "__name__" → mb x = bootBuiltins x) (hroom : A.depth + 4 < recursionLimit)
    (hq : ∀ h' tk e d, OwnMade2 s.heap h' e C d v → R (.ok (.ret (.ref e))) { s with heap := h', toks := tk }) :
    codeAny (model prog w) A (.call (.ref C) ⟨[v], []⟩) R s := by
  obtain ⟨nm', q, N, bs, sn, sub, ab, col, dd, k0, k1, k2, k3, k5, hC⟩ := T.cls
  obtain ⟨hp, g, dr, tk, os⟩ := s
  have k : ∀ b o, hp.get? b = some o → ((hp.push (kdv_tup [v])).push (excO C hp.objs.size)).get? b = some o := fun b o e => Heap.get?_push_of_some _ (Heap.get?_push_of_some _ e)
  have hget : ((hp.push (kdv_tup [v])).push (excO C hp.objs.size)).get? (hp.objs.size + 1) = some (excO C hp.objs.size) := by heap_get
  have hnx : K.lookup (hp.objs.size + 1) = none := by
    cases e : K.lookup (hp.objs.size + 1) with
    | none => rfl
    | some o =>
      have z : hp.get? (hp.objs.size + 1) = some o := X _ _ e
      exact absurd (Nat.lt_of_succ_lt (Heap.lt_size z)) (Nat.lt_irrefl _)
  refine call_own F.excBase_ValueError (fun X => refsVE_contains X _ (refs D)) (X _ _ hC) (looks_findIn X T.iC) (fun self => bind_fn X self T.tI) (one_size v) ?_
  obtain ⟨mb, hb1, hb2⟩ := GB
  refine own_init (s := ⟨(hp.push (kdv_tup [v])).push (excO C hp.objs.size), g, dr, tk, os⟩) Bt T J (X.keeps k) (hlim.keeps k) (G.keeps k) ⟨mb, hb1.keeps k, hb2⟩ hget hnx ?_ fun h' tk' dx t1 ⟨k', hx, dn, dne, hns⟩ => ?_
  · show A.depth + 1 + 3 < recursionLimit
    exact hroom
  · have old : ∀ b o, hp.get? b = some o → h'.get? b = some o := fun b o e => k' b o (Nat.ne_of_lt (Nat.lt_succ_of_lt (Heap.lt_size e))) (k b o e)
    have z : hp.objs.size + 1 + 1 ≤ dx := by
      first
        | (simpa only [Heap.size_push] using dn)
        | exact dn
        | (have q := dn; rw [Heap.size_push, Heap.size_push] at q; exact q)
    exact ⟨rfl, hq h' tk' (hp.objs.size + 1) dx ⟨old, Nat.le_succ _, ⟨_, _, hx, rfl, rfl, rfl, rfl⟩, Nat.le_trans (Nat.le_trans (Nat.le_succ _) (Nat.le_succ _)) z, dne, hns⟩⟩
end
end WrX
end PySem
namespace L2
open PySem PySem.Spec PyProof.Rows
theorem relO_two {v : V} {v' : Value} (r : RelV v v') (f : Str) : RelO (List.lookup f [(("count" : Str), v), (("given" : Str), v)]) (if f = "count" then some v' else if f = "given" then some v' else none) := by
  by_cases h1 : f = "count"
  · subst h1
    rw [if_pos rfl]
    have q : List.lookup ("count" : Str) [(("count" : Str), v), (("given" : Str), v)] = some v := by simp [List.lookup]
    rw [q]
    exact r
  · rw [if_neg h1]
    have qw : (f == ("count" : Str)) = false := by simpa using h1
    have q2 : List.lookup f [(("count" : Str), v), (("given" : Str), v)] = List.lookup f [(("given" : Str), v)] := by rw [List.lookup_cons, qw]
    rw [q2]
    exact relO_giv r f
section
variable {X : Cx} {D C fI fJ : Addr} {nm qn : Str}
/-- C(e), e in two fields -/
def tMkN (C : Addr) (ta : TA) : St → Hp → XK → Prop := fun σ H Q => ta σ H fun vs H1 => ∃ v, vs = [v] ∧ ∀ d, H1 d = none → Q (.ref C) (some d) (upd H1 d (.xd [(("count" : Str), v), (("given" : Str), v)]))
theorem pmk_ownN {a : Expr} {ta : TA} {p pos : Pos} {k : Nat} (hk : 4 ≤ k) (Bt : PySem.WrX.BaseTxt X.prog X.K X.mg D fI) (T : PySem.WrX.ClsTxt X.K X.mg nm D fJ C) (J : PySem.WrX.OwnTxt X.prog X.K qn D fI C fJ) (hr : Room k X.A) (ha : PA X [a] ta) (hg : Gl X nm := by rfl) (hdb : (nm == ("__debug__" : Str)) = false := by decide)
    (he : starEach (a :: []) X.env = (false, eval a X.env) :: starEach [] X.env := by rfl) (hpl : (backTo pos (starEach [] X.env)).any (·.1) = false := by rfl) :
    PMk X (.Call (.Name nm p) [a] [] pos) (tMkN C ta) := by
  intro pins s σ H Q I h
  refine wpAny_Call_Name_kw (ld_glob I hg T.gC ?_ hdb)
  refine PySem.W.callWith_K (h₀ := X.base) I.ok.mod.kin T.kC (thn (ha.run pos pins s σ H _ I h) fun us s1 hh => ?_) he hpl
  obtain ⟨vs, H1, I1, r1, v, ev, q1⟩ := hh
  subst ev
  refine ⟨I1.kIn, ?_⟩
  cases r1 with
  | cons rv rn =>
    rename_i v' us'
    cases rn
    show wpAny _ _ (call (.ref C) [v']) _ _ _
    have hlim := I1.nolimit
    obtain ⟨mb, hb1, hb2⟩ := I1.mod.blt
    have hG := I1.mod.glob.keeps I1.bk
    have hB := hb1.keeps I1.bk
    have hK := I1.kIn
    obtain ⟨hp, g, dr, tk, os⟩ := s1
    refine wpAny_call (PySem.WrX.own_made Bt T J hK hlim hG ⟨mb, hB, hb2⟩ (by have := hr.dp; omega) fun h' tk' e d M => ?_)
    show MkP X pins σ Q (.ref e) ⟨h', g, dr, tk', os⟩
    obtain ⟨oe, fv, hoe, hc, hd, hdat, h1⟩ := M.obj
    have hns := M.ns
    obtain ⟨G', g1, g2⟩ := restrict h' fun b => decide (b ≠ e)
    have gk : ∀ b, b ≠ e → G'.get? b = h'.get? b := fun b hb => g1 b (decide_eq_true hb)
    have ge : G'.get? e = none := g2 e (by simp)
    have old : ∀ b o, hp.get? b = some o → G'.get? b = some o := fun b o q => (gk b (Nat.ne_of_lt (Nat.lt_of_lt_of_le (Heap.lt_size q) M.new))).trans (M.keep b o q)
    have ob : ObjOk X.prog X.w (upd H1 d (.xd [(("count" : Str), v), (("given" : Str), v)])) G' d (.xd [(("count" : Str), v), (("given" : Str), v)]) :=
      ⟨_, hns.at (fun o q => (gk d M.dne).trans q), fun f => relO_two rv f⟩
    have J : Inv X pins σ (upd H1 d (.xd [(("count" : Str), v), (("given" : Str), v)])) ⟨G', g, dr, tk', os⟩ := I1.laid (t' := tk') old M.dbig ob
    refine ⟨e, oe, fv, ⟨G', g, dr, tk', os⟩, _, .ref C, some d, rfl, J, fun b o q => ?_, ge, hoe, ⟨hc, hd⟩, hdat, h1, ?_, rfl, I1.bare, raises_own T.exC T.tyC, q1 d (I1.hok.fresh M.dbig)⟩
    · by_cases hb : b = e
      · have q' : G'.get? b = some o := q
        rw [hb, ge] at q'; cases q'
      · exact (gk b hb).symm.trans q
    · rw [upd_ne (Ne.symm M.dne)]
      exact I1.hok.fresh M.new
/-- raise C(e) -/
def tRaiseN (C : Addr) (W : WX) (ta : TA) : TS := fun _ σ H => tMkN C ta σ H fun cls d H' => W cls d σ H'
theorem ps_raiseN {a : Expr} {ta : TA} {W : WX} {p pos pos2 : Pos} {k : Nat} (hk : 4 ≤ k) (hc : X.calm = true) (Bt : PySem.WrX.BaseTxt X.prog X.K X.mg D fI) (T : PySem.WrX.ClsTxt X.K X.mg nm D fJ C) (J : PySem.WrX.OwnTxt X.prog X.K qn D fI C fJ) (hr : Room k X.A) (tk : Takes X W) (ha : PA X [a] ta) (hg : Gl X nm := by rfl) (hdb : (nm == ("__debug__" : Str)) = false := by decide)
    (he : starEach (a :: []) X.env = (false, eval a X.env) :: starEach [] X.env := by rfl) (hpl : (backTo pos (starEach [] X.env)).any (·.1) = false := by rfl) :
    PS X (.Raise (some (.Call (.Name nm p) [a] [] pos)) none pos2) (tRaiseN C W ta) := ps_raise hc tk (pmk_ownN hk Bt T J hr ha hg hdb he hpl)
end
end L2

end
section
set_option Elab.async false
set_option linter.all false
set_option maxRecDepth 100000
set_option maxHeartbeats 1000000
/-! EwO: errors with further fields, results that are new lists, by types; a walk over a list or a tuple; worlds with one list of one's own. -/
namespace L2
open PySem PySem.Spec PyProof.Rows
def iOr (a b : TI) : TI := fun σ H R => a σ H R ∨ b σ H R
theorem PI.or {X : Cx} {tg l : Expr} {a b : TI} (h : PI X tg l a) (k : PI X tg l b) : PI X tg l (iOr a b) := ⟨fun pins s σ H R I q => q.elim (h.run pins s σ H R I) (k.run pins s σ H R I)⟩
/-- for x in l: a list, a tuple -/
def iSeq (K : PySem.W.Frag) (tl : TE) : TI := iOr (iList K tl) (iTup K tl)
theorem k_iseq {X : Cx} {K : PySem.W.Frag} (hK : X.K = K) {tg l : Expr} {tl : TE} (hl : PE X l tl) : PI X tg l (iSeq K tl) := hK ▸ (pi_list hl).or (pi_tup hl)
section
variable {X : Cx} {o e : Expr} {to : TE} {t : TA} {apos cpos : Pos}
theorem k_append {K : PySem.W.Frag} (hK : X.K = K) (ho : PE X o to) (ha : PA X [e] t) (hbase : attributeBase o "append" X.env (eval o X.env) = eval o X.env := by rfl)
    (hfew : ((backTo cpos (starEach [e] X.env)).all (fun x => !x.1) && (backToKw cpos (keywordEach [] X.env)).all (fun x => x.1.isSome) && decide ([e].length + ([] : List Keyword).length + (if ([] : List Keyword).isEmpty then 0 else 1) < 30)) = true := by rfl)
    (hline : (apos.endLine == cpos.line) = true := by rfl) (hs : starEach [e] X.env = (false, eval e X.env) :: starEach [] X.env := by rfl) (hplain : (backTo cpos (starEach [] X.env)).any (·.1) = false := by rfl) :
    PE X (.Call (.Attribute o "append" apos) [e] [] cpos) (tBM K "list" rAppend to t) := hK ▸ pe_bm PySem.F.plainAttrs_list PySem.F.slot_list_append PySem.F.type_list_append mt_append ho ha hbase hfew hline hs hplain
end
end L2
namespace Ew
open PySem PySem.Spec PyProof.Rows L2
/-! ### errors and results -/
abbrev Fl := V → List (Str × V)
def flG : Fl := fun v => [(("given" : Str), v)]
def flC : Fl := fun v => [(("count" : Str), v), (("given" : Str), v)]
/-- an error of the class c that keeps a value of the type T -/
structure Bad where
  c : Addr
  fl : Fl
  T : Typ
def HeldF (W : Wd) (fl : Fl) (T : Typ) (dd : Addr) (H : Hp) : Prop := ∃ v, H dd = some (.xd (fl v)) ∧ T.at W v H
/-- a result: M, B, the heap at the call, the value, the heap behind -/
structure Res where
  p : (Addr → Prop) → (Addr → Prop) → Hp → V → Hp → Prop
  back : ∀ {M B : Addr → Prop} {H0 H1 H : Hp} {v : V}, Ex B H0 H1 → p M B H1 v H → p M B H0 v H
def rT (T : Typ) : Res := ⟨fun M B _ v H => T.p M B v H, fun _ h => h⟩
/-- a new list -/
def rNew (Ts : List Typ) : Res := ⟨fun M B H0 v H => ∃ p xs, v = .ref p ∧ H0 p = none ∧ H p = some (.lst xs) ∧ TysV M B Ts xs H, fun e ⟨p, xs, h1, h2, h3⟩ => ⟨p, xs, h1, e.free h2, h3⟩⟩
/-- [tag, val], new; where fr says so val is a new list, too -/
def rTold (K : PySem.W.Frag) (tag : Str) (val : PyData) (fr : Prop) : Res := ⟨fun M B H0 v H => ∃ q u, v = .ref q ∧ H0 q = none ∧ H q = some (.lst [.str tag, u]) ∧ Rp M K H u val ∧ (fr → ∃ p, u = .ref p ∧ H0 p = none ∧ p ≠ q),
  fun e ⟨q, u, h1, h2, h3, h4, h5⟩ => ⟨q, u, h1, e.free h2, h3, h4, fun z => let ⟨p, k1, k2, k3⟩ := h5 z; ⟨p, k1, e.free k2, k3⟩⟩⟩
def spX {α : Type} (C : α → Prop) (A : α → List Typ) (R : α → Res) (bad : α → Option Bad) : Sp := fun vs H Q E => ∃ (M B : Addr → Prop) (x : α), (∀ a, B a → M a) ∧ (∀ a, B a → BoxAt H a) ∧ (∀ a, M a → H a ≠ none) ∧ C x ∧ TysV M B (A x) vs H ∧
  (bad x = none → ∀ v H', Ex B H H' → (R x).p M B H v H' → Q v H') ∧ (∀ b, bad x = some b → ∀ dd v H', Ex B H H' → b.T.p M B v H' → H' dd = some (.xd (b.fl v)) → E (.ref b.c) (some dd) H')
/-- .. that never raises -/
def spR {α : Type} (C : α → Prop) (A : α → List Typ) (R : α → Res) : Sp := fun vs H Q _ => ∃ (M B : Addr → Prop) (x : α), (∀ a, B a → M a) ∧ (∀ a, B a → BoxAt H a) ∧ (∀ a, M a → H a ≠ none) ∧ C x ∧ TysV M B (A x) vs H ∧
  ∀ v H', Ex B H H' → (R x).p M B H v H' → Q v H'
/-- an expression: what is known of its value behind the heap at its call -/
def TyR (W : Wd) (Γ : Gam) (te : TE) (P : Hp → V → Hp → Prop) : Prop := ∀ σ H, Cxt W H → EnvW W Γ σ H → ∀ Q : VK, (∀ v H0 H1, Ex W.B H H0 → Ex W.B H0 H1 → P H0 v H1 → Q v H1) → te σ H Q
section
variable {W : Wd} {Γ Γ' : Gam} {K : PySem.W.Frag} {tl : TA} {te ta tb : TE} {tt : TT} {T U : Typ} {α : Type} {C : α → Prop} {A : α → List Typ} {R : α → Res} {bad : α → Option Bad} {Wx : WX} {N : Sx → Hp → Prop} {Rr : V → Hp → Prop} {Bk Ct : Sx → Hp → Prop} {c : Addr} {φ : Prop} {P P' : Hp → V → Hp → Prop} {Ts : List Typ} {i : Nat}
def ErX (W : Wd) (Γ : Gam) (Wx : WX) (b : Bad) : Prop := ∀ dd σ H, nE W Γ σ H → HeldF W b.fl b.T dd H → Wx (.ref b.c) (some dd) σ H
theorem tyr_callX (x : α) (hC : C x) (h : TyA W Γ tl (A x)) (hb : ∀ b, bad x = some b → ErX W Γ Wx b) : TyR W Γ (tCallS (spX C A R bad) (WE Wx) tl) (fun H0 v H => bad x = none ∧ (R x).p W.M W.B H0 v H) := fun σ H c g Q q =>
  h σ H c g _ fun vs H1 e1 hv => ⟨W.M, W.B, x, W.sub, (c.up e1).box, (c.up e1).al, hC, hv, fun k v H2 e2 h2 => q v H1 H2 e1 e2 ⟨k, h2⟩,
    fun b k dd v H' e2 h2 h3 => hb b k dd σ H' ⟨c.up (e1.trans e2), g.up (e1.trans e2).toW⟩ ⟨v, h3, h2⟩⟩
theorem tyr_callKX {gV : List V → List V} {Us : List Typ} (x : α) (hC : C x) (h : TyA W Γ tl Us) (hg : ∀ {vs H}, TysV W.M W.B Us vs H → TysV W.M W.B (A x) (gV vs) H) (hb : ∀ b, bad x = some b → ErX W Γ Wx b) :
    TyR W Γ (tCallKS (spX C A R bad) gV (WE Wx) tl) (fun H0 v H => bad x = none ∧ (R x).p W.M W.B H0 v H) := fun σ H c g Q q =>
  h σ H c g _ fun vs H1 e1 hv => ⟨W.M, W.B, x, W.sub, (c.up e1).box, (c.up e1).al, hC, hg hv, fun k v H2 e2 h2 => q v H1 H2 e1 e2 ⟨k, h2⟩,
    fun b k dd v H' e2 h2 h3 => hb b k dd σ H' ⟨c.up (e1.trans e2), g.up (e1.trans e2).toW⟩ ⟨v, h3, h2⟩⟩
theorem tyr_callR {E : XK} (x : α) (hC : C x) (h : TyA W Γ tl (A x)) : TyR W Γ (tCall (spR C A R) [] E tl) ((R x).p W.M W.B) := fun σ H c g Q q =>
  h σ H c g _ fun vs H1 e1 hv => ⟨W.M, W.B, x, W.sub, (c.up e1).box, (c.up e1).al, hC, by rw [List.append_nil]; exact hv, fun v H2 e2 h2 => q v H1 H2 e1 e2 h2⟩
theorem TyR.sub (h : TyR W Γ te P) (k : ∀ H0 v H, P H0 v H → P' H0 v H) : TyR W Γ te P' := fun σ H c g Q q => h σ H c g Q fun v H0 H1 e0 e1 z => q v H0 H1 e0 e1 (k H0 v H1 z)
theorem TyR.ty (h : TyR W Γ te P) (k : ∀ H0 v H, Cxt W H0 → Ex W.B H0 H → P H0 v H → T.at W v H) : Ty W Γ te T := fun σ H c g Q q => h σ H c g Q fun v H0 H1 e0 e1 z => q v H1 (e0.trans e1) (k H0 v H1 (c.up e0) e1 z)
theorem TyR.tyl (h : TyR W Γ te P) (k : ∀ H0 v H, P H0 v H → (rNew Ts).p W.M W.B H0 v H) : TyL W Γ te Ts := fun σ H c g Q q => h σ H c g Q fun v H0 H1 e0 e1 z => by
  obtain ⟨p, xs, rfl, h2, h3, h4⟩ := k H0 v H1 z
  exact q p xs H1 (e0.trans e1) (e0.free h2) h3 h4
theorem Ty.tyr (h : Ty W Γ te T) : TyR W Γ te ((rT T).p W.M W.B) := fun σ H c g Q q => h σ H c g Q fun v H1 e z => q v H H1 (Ex.refl _ _) e z
theorem TyL.tyr (h : TyL W Γ te Ts) : TyR W Γ te ((rNew Ts).p W.M W.B) := fun σ H c g Q q => h σ H c g Q fun p xs H1 e h1 h2 h3 => q _ H H1 (Ex.refl _ _) e ⟨p, xs, rfl, h1, h2, h3⟩
theorem tyr_if {φ : Bool → Prop} (hc : Tt W Γ tt φ) (h1 : φ true → TyR W Γ ta P) (h2 : φ false → TyR W Γ tb P) : TyR W Γ (tIf tt ta tb) P := fun σ H c g Q q =>
  hc σ H c g _ fun b H1 e1 hb => by
    cases b with
    | true => rw [if_pos rfl]; exact h1 hb σ H1 (c.up e1) (g.up e1.toW) Q fun v H0 H2 e0 e2 h => q v H0 H2 (e1.trans e0) e2 h
    | false => rw [if_neg Bool.false_ne_true]; exact h2 hb σ H1 (c.up e1) (g.up e1.toW) Q fun v H0 H2 e0 e2 h => q v H0 H2 (e1.trans e0) e2 h
theorem tyl_if {φ : Bool → Prop} (hc : Tt W Γ tt φ) (h1 : φ true → TyL W Γ ta Ts) (h2 : φ false → TyL W Γ tb Ts) : TyL W Γ (tIf tt ta tb) Ts := (tyr_if hc (fun z => (h1 z).tyr) fun z => (h2 z).tyr).tyl fun _ _ _ z => z
/-- [tag, e] -/
theorem tyr_told {tag : Str} {val : PyData} {fr : Prop} (h : TyR W Γ te P) (k : ∀ H0 v H, P H0 v H → Rp W.M K H v val ∧ (fr → ∃ p o, v = .ref p ∧ H0 p = none ∧ H p = some o)) : TyR W Γ (tLst (tCons (tC (.str tag)) (tCons te tNil))) ((rTold K tag val fr).p W.M W.B) := fun σ H c g Q q =>
  h σ H c g _ fun v H0 H1 e0 e1 z => by
    obtain ⟨k1, k2⟩ := k H0 v H1 z
    refine ⟨by show 2 ≤ sizeLine; exact sz_le (by decide), fun p hp => q _ H0 _ e0 (e1.trans (Ex.new hp)) ⟨p, v, rfl, e1.free hp, upd_same, Rp.up (Ex.new (B := W.B) hp).toW k1, fun f => ?_⟩⟩
    obtain ⟨a, o, rfl, k3, k4⟩ := k2 f
    exact ⟨a, rfl, k3, ne_of_none k4 hp⟩
theorem Res.tdata {tag : Str} {val : PyData} {fr : Prop} {H0 H : Hp} {v : V} (c : Cxt W H0) (h : (rTold K tag val fr).p W.M W.B H0 v H) : (dt K (.list [.str tag, val])).at W v H := by
  obtain ⟨q, u, rfl, h2, h3, h4, _⟩ := h
  exact .lst h3 (c.nm h2) (.cons (.str _) (.cons h4 .nil))
/-- what a def hands back -/
def rX (W : Wd) (φ : Prop) (R : Res) : V → Hp → Prop := fun v H => φ ∧ Ex W.B W.H0 H ∧ R.p W.M W.B W.H0 v H
theorem tys_retX {R : Res} (hφ : φ) (h : TyR W Γ te (R.p W.M W.B)) : TyS W Γ (tRet te) noN (rX W φ R) Bk Ct := fun σ H c g D _ dr _ _ => h σ H c g _ fun v H0 H1 e0 e1 z => dr v H1 ⟨hφ, (c.up (e0.trans e1)).ex, R.back (c.up e0).ex z⟩
theorem tys_retXG {R : Res} (h : TyR W Γ te P) (k : ∀ H0 v H, P H0 v H → φ ∧ R.p W.M W.B H0 v H) : TyS W Γ (tRet te) noN (rX W φ R) Bk Ct := fun σ H c g D _ dr _ _ => h σ H c g _ fun v H0 H1 e0 e1 z => dr v H1 ⟨(k _ _ _ z).1, (c.up (e0.trans e1)).ex, R.back (c.up e0).ex (k _ _ _ z).2⟩
theorem tys_dropR (h : TyR W Γ te P) (k : ∀ H0 v H, P H0 v H → φ) : TyS W Γ (tDrop te) (fun σ H => φ ∧ nE W Γ σ H) Rr Bk Ct := fun σ H c g D dn _ _ _ => h σ H c g _ fun v H0 H1 e0 e1 z => dn σ H1 (e0.trans e1).toW ⟨k _ _ _ z, c.up (e0.trans e1), g.up (e0.trans e1).toW⟩
theorem tys_raiseG (h : Ty W Γ te T) (k : ErX W Γ Wx ⟨c, flG, T⟩) : TyS W Γ (tRaiseW c Wx (tCons te tNil)) noN Rr Bk Ct := fun σ H cx g D _ _ _ _ =>
  h σ H cx g _ fun v H1 e hv => ⟨v, rfl, fun d hd => k d σ _ ⟨cx.up (e.trans (Ex.new hd)), g.up (e.trans (Ex.new hd)).toW⟩ ⟨v, upd_same, T.up (Ex.new (B := W.B) hd).toW hv⟩⟩
theorem tys_raiseC (h : Ty W Γ te T) (k : ErX W Γ Wx ⟨c, flC, T⟩) : TyS W Γ (tRaiseN c Wx (tCons te tNil)) noN Rr Bk Ct := fun σ H cx g D _ _ _ _ =>
  h σ H cx g _ fun v H1 e hv => ⟨v, rfl, fun d hd => k d σ _ ⟨cx.up (e.trans (Ex.new hd)), g.up (e.trans (Ex.new hd)).toW⟩ ⟨v, upd_same, T.up (Ex.new (B := W.B) hd).toW hv⟩⟩
/-- the caught error's name -/
def erF (dd a : Addr) (fl : Fl) (T : Typ) : Typ := ⟨fun M B v H => v = .ref a ∧ ∃ u, H dd = some (.xd (fl u)) ∧ T.p M B u H, fun e ⟨h, u, h1, h2⟩ => ⟨h, u, e.keepT h1 (fun _ z => nomatch z), T.up e h2⟩, fun n ⟨h, u, h1, h2⟩ => ⟨h, u, h1, T.weak n h2⟩, fun ⟨h, u, h1, h2⟩ => ⟨h, u, h1, T.drop h2⟩⟩
theorem ty_field {a dd : Addr} {cls : Value} {d : Option Addr} {fl : Fl} {n : Str} (hn : ∀ u, (fl u).lookup n = some u) (hc : cls = .ref c) (hd : d = some dd) (h : Ty W Γ te (erF dd a fl T)) : Ty W Γ (tXf a cls d c n te) T := fun σ H cx g Q q =>
  h σ H cx g _ fun v H1 e ⟨e1, u, h1, h2⟩ => ⟨e1, hc, dd, _, u, hd, h1, hn u, q u H1 e h2⟩
theorem flG_given : ∀ u, (flG u).lookup ("given" : Str) = some u := fun u => by simp [flG, List.lookup]
theorem flC_count : ∀ u, (flC u).lookup ("count" : Str) = some u := fun u => by simp [flC, List.lookup]
theorem hdl_hitX {Wout : WX} {l : List Hdl} {D : Ends} {i : Nat} {ts : Addr → Value → Option Addr → TS} {fl : Fl} {dd : Addr} {σ : Sx} {H : Hp} {cc : Value} (hc : PySem.W.exmOne K (.ref c) cc = some true) (n : nE W Γ σ H) (hd : HeldF W fl T dd H)
    (dr : ∀ v H', Rr v H' → D.rt v H') (hs : ∀ a, TyS W (Γ.set i (some (erF dd a fl T))) (ts a (.ref c) (some dd)) noN Rr noN noN) : wManyA K Wout D ((cc, i, ts) :: l) (.ref c) (some dd) σ H :=
  ⟨true, hc, fun _ a ha => by
    obtain ⟨u, h1, h2⟩ := hd
    exact hs a _ H n.1 (EnvL.set (T := erF dd a fl T) ⟨rfl, u, h1, h2⟩ n.2) _ (fun _ _ _ z => z.elim) dr (fun _ _ _ z => z.elim) (fun _ _ _ z => z.elim), fun z => Bool.noConfusion z⟩
theorem tyi_seqT (h : Ty W Γ te (tupT K Ts)) : TyI W Γ (iSeq K te) Ts := fun σ H c g R q => .inr (tyi_tup h σ H c g R q)
theorem tyi_seqL (h : Ty W Γ te (lstT Ts)) : TyI W Γ (iSeq K te) Ts := fun σ H c g R q => .inl (tyi_lst h σ H c g R q)
end
section
variable {P : Program} {w : World} {K : PySem.W.Frag} {mg : Str → Option Value} {base : Heap}
theorem fn_tyX {x qual : Str} {st : Stmt} {f : Addr} {fd : FuncData} {N ps : List Str} {k : Nat} {α : Type} {C : α → Prop} {A : α → List Typ} {R : α → Res} {bad : α → Option Bad} (F : Fun K x qual st f fd) (S : FnScope N ps (defScope st))
    (len : ∀ x, C x → (A x).length = ps.length)
    (hbody : ∀ (cdv : Value) (Ar : Around) (outer : List Env) (s : Shared) (H : Hp) (E : XK), Room k (Ar.deeper (envOfC qual (defScope st) s.heap.objs.size f cdv)) →
      ∃ t, PSs (cxOf (L2.CX P w) P w K mg base N qual (defScope st) f cdv Ar outer s H E) (defBody st) t ∧ ∀ (W : Wd) (x : α), C x → (∀ Γ b, bad x = some b → ErX W Γ (fun cls d _ H => E cls d H) b) →
        TyS W ((A x).map some ++ List.replicate (N.length - ps.length) none) t (fun _ H' => rX W (bad x = none) (R x) .non H') (rX W (bad x = none) (R x)) noN noN) :
    FnOk P w K mg base (L2.CX P w) (k + 1) f fd ps (spX C A R bad) := by
  refine F.okX S (fun vs H Q E h => ?_) fun cdv Ar outer s H vs Q E hr h => ?_
  · obtain ⟨M, B, x, _, _, _, hC, h, _⟩ := h
    rw [h.length, len x hC]
  · obtain ⟨M, B, x, hs, hb, ha, hC, h, q, qe⟩ := h
    obtain ⟨t, ht, k⟩ := hbody cdv Ar outer s H E hr
    refine ⟨t, ht, k (Wd.base M B H hs) x hC (fun Γ b hb dd σ H' n hl => ?_) (L2.start N vs) H ⟨hb, ha, Ex.refl B H, True.intro⟩ ?_ _ (fun σ' H' _ n => q n.1 _ _ n.2.1 n.2.2) (fun v H' n => q n.1 _ _ n.2.1 n.2.2) (fun _ _ _ z => z.elim) (fun _ _ _ z => z.elim)⟩
    · obtain ⟨v, h1, h2⟩ := hl
      exact qe b hb dd v H' n.1.ex h2 h1
    · unfold L2.start
      have e : vs.length = ps.length := by rw [h.length, len x hC]
      rw [e]
      exact env_start h _
theorem fn_tyR {x qual : Str} {st : Stmt} {f : Addr} {fd : FuncData} {N ps : List Str} {k : Nat} {α : Type} {C : α → Prop} {A : α → List Typ} {R : α → Res} (F : Fun K x qual st f fd) (S : FnScope N ps (defScope st))
    (len : ∀ x, C x → (A x).length = ps.length)
    (hbody : ∀ (cdv : Value) (Ar : Around) (outer : List Env) (s : Shared) (H : Hp) (E : XK), Room k (Ar.deeper (envOfC qual (defScope st) s.heap.objs.size f cdv)) →
      ∃ t, PSs (cxOf (L2.CX P w) P w K mg base N qual (defScope st) f cdv Ar outer s H E).nox (defBody st) t ∧ ∀ (W : Wd) (x : α), C x → TyS W ((A x).map some ++ List.replicate (N.length - ps.length) none) t (fun _ H' => rX W True (R x) .non H') (rX W True (R x)) noN noN) :
    FnOk P w K mg base (L2.CX P w) (k + 1) f fd ps (spR C A R) := by
  refine okN F S (fun vs H Q E h => ?_) fun cdv Ar outer s H vs Q E hr h => ?_
  · obtain ⟨M, B, x, _, _, _, hC, h, _⟩ := h
    rw [h.length, len x hC]
  · obtain ⟨M, B, x, hs, hb, ha, hC, h, q⟩ := h
    obtain ⟨t, ht, k⟩ := hbody cdv Ar outer s H E hr
    refine ⟨t, ht, k (Wd.base M B H hs) x hC (L2.start N vs) H ⟨hb, ha, Ex.refl B H, True.intro⟩ ?_ _ (fun σ' H' _ n => q _ _ n.2.1 n.2.2) (fun v H' n => q _ _ n.2.1 n.2.2) (fun _ _ _ z => z.elim) (fun _ _ _ z => z.elim)⟩
    unfold L2.start
    have e : vs.length = ps.length := by rw [h.length, len x hC]
    rw [e]
    exact env_start h _
end
section
variable {W : Wd} {Γ : Gam} {te : TE} {g : TG} {R : V → Hp → Prop} {Bk Ct : Sx → Hp → Prop}
/-- a, b = e: just something is known of e -/
theorem tys_asgX {α : Type} {A : α → Typ} {φ : α → Prop} {Γ' : α → Gam} (h : Ty W Γ te (exT fun x => gd (φ x) (A x))) (hg : ∀ x, TyG W Γ g (A x) (Γ' x)) : TyS W Γ (tAsg te g) (fun σ H => ∃ x : { x // φ x }, nE W (Γ' x.1) σ H) R Bk Ct := fun σ H c e D dn _ _ _ => h σ H c e _ fun v H1 e1 ⟨x, hx, hv⟩ =>
  hg x v σ H1 (c.up e1) (e.up e1.toW) hv _ fun σ' H' e2 g' => dn σ' H' (e1.trans e2).toW ⟨⟨x, hx⟩, c.up (e1.trans e2), g'⟩
end
/-! ### sizes -/
def bd (n : Nat) (v : Int) : Prop := v.natAbs < 2 ^ n
section
variable {a b : Int} {n m : Nat}
theorem bd_log (h : bd n a) : a.natAbs.log2 ≤ n := by
  by_cases z : a.natAbs = 0
  · rw [z]; exact Nat.zero_le _
  · exact Nat.le_of_lt ((Nat.log2_lt z).mpr h)
theorem bd.mono (h : bd n a) (k : n ≤ m) : bd m a := Nat.lt_of_lt_of_le h (Nat.pow_le_pow_right (by decide) k)
theorem bd.mul (h : bd n a) (k : bd m b) : bd (n + m) (a * b) := by
  unfold bd at *
  rw [Int.natAbs_mul, Nat.pow_add]
  exact Nat.mul_lt_mul_of_lt_of_le h (Nat.le_of_lt k) (Nat.lt_of_le_of_lt (Nat.zero_le _) k)
theorem bd.sub (h : bd n a) (k : bd n b) : bd (n + 1) (a - b) := by
  unfold bd at *
  rw [Nat.pow_succ]; omega
theorem bd.add (h : bd n a) (k : bd n b) : bd (n + 1) (a + b) := by
  unfold bd at *
  rw [Nat.pow_succ]; omega
theorem bd.div (h : bd n a) (k : 0 < b) : bd n (a / b) := by
  unfold bd at *
  have := Int.natAbs_ediv_le_natAbs a b
  omega
theorem bd.div_ok (k : 0 < b) (h : bd n b) (hn : n ≤ 8000) : L2.CDivW a b := ⟨k, by have := bd_log h; omega⟩
theorem bd.mul_ok (h : bd n a) (k : bd m b) (hn : n + m ≤ 100000) : L2.CMulW a b := by
  have h1 := bd_log h
  have h2 := bd_log k
  unfold L2.CMulW
  omega
theorem bd.le (h : bd n a) (h0 : 0 ≤ b) (k : b ≤ a) : bd n b := by
  unfold bd at *; omega
end
/-! ### one list of one's own, further -/
section
variable {W : Wd} {Γ Γ' : Gam} {K : PySem.W.Frag} {T U : Typ} {Ts Us : List Typ} {te ta tj : TE} {ts tw : TS} {tt : TT} {i : Nat} {N N' : Sx → Hp → Prop} {R : V → Hp → Prop} {Bk Ct : Sx → Hp → Prop} {D : Addr} {nb : ¬ W.B D} {P : Hp → V → Hp → Prop} {φ : Bool → Prop}
theorem Exm.adM {M B : Addr → Prop} {H H' : Hp} (e : Exm M B H H') : Exm (Ew.ad M D) B H H' := fun a o h => (e a o h).imp id fun ⟨m, r⟩ => ⟨.inl m, r⟩
theorem own_out {H : Hp} (c : Cxt (W.own D nb Ts) H) : Cxt W H := by
  obtain ⟨⟨H1, o1, o2, o3⟩, _⟩ := c.own
  exact ⟨c.box, fun a z => c.al a (.inl z), c.ex, W.kept o3 o1⟩
/-- without the list at D -/
theorem Exm.less {M B : Addr → Prop} {H H1 H2 : Hp} (e : Ex B H H1) (f : Exm (Ew.ad M D) B H1 H2) (s : ∀ a, B a → M a) (hD : H D = none) : Exm M B H H2 := fun a o h => by
  have ne := ne_of_none h hD
  have e' : Exm M B H H1 := e.toM s
  rcases e' a o h with q | ⟨m, ⟨xs, rfl⟩, ⟨ys, q⟩, b⟩
  · rcases f a o q with r | ⟨m, x, y, b⟩
    · exact .inl r
    · exact .inr ⟨m.resolve_right ne, x, y, fun z z2 => b z (by obtain ⟨xs, z3, z4⟩ := z2; rw [h] at z3; cases z3; exact ⟨xs, q, z4⟩)⟩
  · rcases f a _ q with r | ⟨_, _, y, b'⟩
    · exact .inr ⟨m, ⟨xs, rfl⟩, ⟨ys, r⟩, fun z1 z2 => by
        obtain ⟨zs, z3, z4⟩ := b z1 z2
        rw [q] at z3; cases z3
        exact ⟨ys, r, z4⟩⟩
    · exact .inr ⟨m, ⟨xs, rfl⟩, y, fun z1 z2 => b' z1 (b z1 z2)⟩
theorem Tt.back (h : Tt W Γ' tt φ) (k : ∀ σ H, nE (W.own D nb Ts) Γ σ H → EnvW W Γ' σ H) : Tt (W.own D nb Ts) Γ tt φ := fun σ H c g Q q => h σ H (own_out c) (k σ H ⟨c, g⟩) Q q
theorem Ty.back (h : Ty W Γ' te T) (k : ∀ σ H, nE (W.own D nb Ts) Γ σ H → EnvW W Γ' σ H) (t : ∀ v H, T.p W.M W.B v H → U.p (Ew.ad W.M D) W.B v H) : Ty (W.own D nb Ts) Γ te U := fun σ H c g Q q => h σ H (own_out c) (k σ H ⟨c, g⟩) Q fun v H1 e z => q v H1 e (t v H1 z)
theorem TyS.back (h : TyS W Γ' ts N R Bk Ct) (k : ∀ σ H, nE (W.own D nb Ts) Γ σ H → EnvW W Γ' σ H) : TyS (W.own D nb Ts) Γ ts N R Bk Ct := fun σ H c g E dn dr db dc =>
  h σ H (own_out c) (k σ H ⟨c, g⟩) E (fun σ' H' e n => dn σ' H' e.adM n) dr (fun σ' H' e n => db σ' H' e.adM n) fun σ' H' e n => dc σ' H' e.adM n
theorem tys_seqB (h1 : TyS (W.own D nb Ts) Γ ts (nE W Γ') R Bk Ct) (h2 : TyS W Γ' tw N R Bk Ct) : TyS (W.own D nb Ts) Γ (tSeq ts tw) N R Bk Ct := fun σ H c g E dn dr db dc =>
  h1 σ H c g { E with nx := tw E } (fun σ' H' e n => h2 σ' H' n.1 n.2 E (fun σ2 H2 e2 => dn σ2 H2 (e.trans e2.adM)) dr (fun σ2 H2 e2 => db σ2 H2 (e.trans e2.adM)) fun σ2 H2 e2 => dc σ2 H2 (e.trans e2.adM)) dr db dc
/-- x = e, with it comes a new list at D -/
theorem tys_ownR {T : Addr → Typ} (h : TyR W Γ te P) (k : ∀ H0 v H, Cxt W H0 → Ex W.B H0 H → P H0 v H → ∃ p xs, H0 p = none ∧ H p = some (.lst xs) ∧ TysV (Ew.ad W.M p) W.B Ts xs H ∧ (T p).p (Ew.ad W.M p) W.B v H)
    (hb : ∀ D (nb : ¬ W.B D), ¬ W.M D → TyS (W.own D nb Ts) (Γ.set i (some (T D))) tw N R noN noN) : TyS W Γ (tSeq (tAsg te (gName i)) tw) N R Bk Ct := fun σ H c g E dn dr db dc =>
  h σ H c g _ fun v H0 H1 e0 e1 z => by
    obtain ⟨p, xs, h0, h1, h2, h3⟩ := k H0 v H1 (c.up e0) e1 z
    have hp : H p = none := e0.free h0
    have e := e0.trans e1
    have nm : ¬ W.M p := c.nm hp
    have nb : ¬ W.B p := c.nb hp
    have c1 := c.up e
    have c2 : Cxt (W.own p nb Ts) H1 := ⟨c1.box, fun a z => z.elim (c1.al a) (fun w => by rw [w, h1]; intro q; cases q), c1.ex, ⟨H, c.own, hp, e⟩, c.ex.free hp, xs, h1, h2⟩
    have g1 : EnvL (Ew.ad W.M p) W.B Γ σ H1 := (EnvL.weak hp g).up (e.toM fun a h => .inl (W.sub a h))
    exact hb p nb nm _ H1 c2 (EnvL.set (T := T p) h3 g1) E (fun σ' H' e' n => dn σ' H' (Exm.less e e' W.sub hp) n) dr (fun _ _ _ z => z.elim) (fun _ _ _ z => z.elim)
/-- e.append(u), e the own list -/
theorem tys_appendE (he : Ty (W.own D nb Ts) Γ ta (isV (.ref D))) (h : Ty (W.own D nb Ts) Γ te T) (hz : Ts.length < 1000000) : TyS (W.own D nb Ts) Γ (tDrop (tBM K "list" rAppend ta (tCons te tNil))) (nE (W.own D nb (Ts ++ [T])) Γ) R Bk Ct := fun σ H c g E dn dr db dc =>
  he σ H c g _ fun v H1 e1 hv => by
  have hv : v = .ref D := hv
  subst hv
  have c1 := c.up e1
  obtain ⟨_, _, xs0, q0, _⟩ := c1.own
  refine ⟨.inl ⟨rfl, _, SqL.of q0⟩, h σ H1 c1 (g.up e1.toW) _ fun y H2 e hy => ?_⟩
  have c2 := c1.up e
  have e12 := e1.trans e
  obtain ⟨_, _, xs, q1, q2⟩ := c2.own
  have put : Exm (Ew.ad W.M D) W.B H2 (upd H2 D (.lst (xs ++ [y]))) := Exm.put (.inr rfl) nb q1
  have w := own_put (nb := nb) (Ts := Ts) (Us := Ts ++ [T]) (ys := xs ++ [y]) c2 q1 ((q2.append (show TysV (Ew.ad W.M D) W.B [T] [y] H2 from ⟨hy, True.intro⟩)).up put)
  exact ⟨D, xs, y, rfl, rfl, q1, by rw [q2.length]; exact sz_lt hz, dn σ _ (e12.toW.trans w.2) ⟨w.1, (g.up e12.toW).up w.2⟩⟩
theorem TysV.setT {M B : Addr → Prop} {H : Hp} {y : V} (hy : T.p M B y H) : ∀ {Ts : List Typ} {xs : List V} (k : Nat), TysV M B Ts xs H → TysV M B (Ts.set k T) (xs.set k y) H
  | [], [], _, h => h
  | _ :: _, _ :: _, 0, h => ⟨hy, h.2⟩
  | _ :: _, _ :: _, k + 1, h => ⟨h.1, TysV.setT hy k h.2⟩
  | [], _ :: _, _, h => h.elim
  | _ :: _, [], _, h => h.elim
/-- found[k] = e, found the own list -/
theorem tys_put {k : Nat} (hi : Γ[i]? = some (some (isV (.ref D)))) (h : Ty (W.own D nb Ts) Γ te T) (hj : Ty (W.own D nb Ts) Γ tj (dt K (.int (k : Nat)))) (hk : k < Ts.length) : TyS (W.own D nb Ts) Γ (tAsg te (gSub (tVar i) tj rSetL)) (nE (W.own D nb (Ts.set k T)) Γ) R Bk Ct := fun σ H c g E dn dr db dc =>
  h σ H c g _ fun y H1 e1 hy => by
  have c1 := c.up e1
  have g1 := g.up e1.toW
  obtain ⟨v, h1, h2⟩ := g1.get hi
  have hv : v = .ref D := h2
  subst hv
  refine ⟨.ref D, h1, hj σ H1 c1 g1 _ fun u H2 e2 hu => ?_⟩
  cases hu
  have c2 := c1.up e2
  have e12 := e1.trans e2
  obtain ⟨_, _, xs, q1, q2⟩ := c2.own
  have hy2 := T.up (e2.toM (M := Ew.ad W.M D) fun a h => .inl (W.sub a h)) hy
  have put : Exm (Ew.ad W.M D) W.B H2 (upd H2 D (.lst (xs.set k y))) := Exm.put (.inr rfl) nb q1
  have w := own_put (nb := nb) (Ts := Ts) (Us := Ts.set k T) (ys := xs.set k y) c2 q1 ((TysV.setT hy2 k q2).up put)
  refine ⟨D, xs, (k : Int), k, rfl, rfl, q1, ?_, dn σ _ (e12.toW.trans w.2) ⟨w.1, (g.up e12.toW).up w.2⟩⟩
  have hl : k < xs.length := by rw [q2.length]; exact hk
  unfold ixN
  simp [hl]
/-- found[k] -/
theorem ty_ixO {k : Nat} {A : Typ} (hi : Γ[i]? = some (some (isV (.ref D)))) (hj : Ty (W.own D nb Ts) Γ tj (dt K (.int (k : Nat)))) (e : Ts[k]? = some A) : Ty (W.own D nb Ts) Γ (tOp (rIx K) (tVar i) tj) A := fun σ H c g Q q => by
  obtain ⟨v, h1, h2⟩ := g.get hi
  have hv : v = .ref D := h2
  subst hv
  refine ⟨.ref D, h1, hj σ H c g _ fun u H1 e1 hu => ?_⟩
  cases hu
  obtain ⟨_, _, xs, q1, q2⟩ := (c.up e1).own
  obtain ⟨w, h3, h4⟩ := q2.get e
  exact .inl ⟨D, xs, (k : Int), w, rfl, rfl, SqL.of q1, atI_nat h3, q w H1 e1 h4⟩
/-- found.append(e), just something is known of e -/
theorem tys_appendX {α : Type} {φ : α → Prop} {A : α → Typ} (hi : Γ[i]? = some (some (isV (.ref D)))) (h : Ty (W.own D nb Ts) Γ te (exT fun x => gd (φ x) (A x))) (hz : Ts.length < 1000000) : TyS (W.own D nb Ts) Γ (tDrop (tBM K "list" rAppend (tVar i) (tCons te tNil))) (fun σ H => ∃ x : { x // φ x }, nE (W.own D nb (Ts ++ [A x.1])) Γ σ H) R Bk Ct := fun σ H c g E dn dr db dc => by
  obtain ⟨v, h1, h2⟩ := g.get hi
  have hv : v = .ref D := h2
  subst hv
  obtain ⟨_, _, xs0, q0, _⟩ := c.own
  refine ⟨.ref D, h1, .inl ⟨rfl, _, SqL.of q0⟩, h σ H c g _ fun y H2 e ⟨x, hx, hy⟩ => ?_⟩
  have c2 := c.up e
  obtain ⟨_, _, xs, q1, q2⟩ := c2.own
  have put : Exm (Ew.ad W.M D) W.B H2 (upd H2 D (.lst (xs ++ [y]))) := Exm.put (.inr rfl) nb q1
  have w := own_put (nb := nb) (Ts := Ts) (Us := Ts ++ [A x]) (ys := xs ++ [y]) c2 q1 ((q2.append (show TysV (Ew.ad W.M D) W.B [A x] [y] H2 from ⟨hy, True.intro⟩)).up put)
  exact ⟨D, xs, y, rfl, rfl, q1, by rw [q2.length]; exact sz_lt hz, dn σ _ (e.toW.trans w.2) ⟨⟨x, hx⟩, w.1, (g.up e.toW).up w.2⟩⟩
/-- found[k] = e, just something is known of e -/
theorem tys_putX {α : Type} {φ : α → Prop} {A : α → Typ} {k : Nat} (hi : Γ[i]? = some (some (isV (.ref D)))) (h : Ty (W.own D nb Ts) Γ te (exT fun x => gd (φ x) (A x))) (hj : Ty (W.own D nb Ts) Γ tj (dt K (.int (k : Nat)))) (hk : k < Ts.length) : TyS (W.own D nb Ts) Γ (tAsg te (gSub (tVar i) tj rSetL)) (fun σ H => ∃ x : { x // φ x }, nE (W.own D nb (Ts.set k (A x.1))) Γ σ H) R Bk Ct := fun σ H c g E dn dr db dc =>
  h σ H c g _ fun y H1 e1 ⟨x, hx, hy⟩ => by
  have c1 := c.up e1
  have g1 := g.up e1.toW
  obtain ⟨v, h1, h2⟩ := g1.get hi
  have hv : v = .ref D := h2
  subst hv
  refine ⟨.ref D, h1, hj σ H1 c1 g1 _ fun u H2 e2 hu => ?_⟩
  cases hu
  have c2 := c1.up e2
  have e12 := e1.trans e2
  obtain ⟨_, _, xs, q1, q2⟩ := c2.own
  have hy2 := (A x).up (e2.toM (M := Ew.ad W.M D) fun a h => .inl (W.sub a h)) hy
  have put : Exm (Ew.ad W.M D) W.B H2 (upd H2 D (.lst (xs.set k y))) := Exm.put (.inr rfl) nb q1
  have w := own_put (nb := nb) (Ts := Ts) (Us := Ts.set k (A x)) (ys := xs.set k y) c2 q1 ((TysV.setT hy2 k q2).up put)
  refine ⟨D, xs, (k : Int), k, rfl, rfl, q1, ?_, dn σ _ (e12.toW.trans w.2) ⟨⟨x, hx⟩, w.1, (g.up e12.toW).up w.2⟩⟩
  have hl : k < xs.length := by rw [q2.length]; exact hk
  unfold ixN
  simp [hl]
end
section
variable {W : Wd} {Γ : Gam} {K : PySem.W.Frag} {te : TE} {g : TG} {tb : TS} {N : Sx → Hp → Prop} {R : V → Hp → Prop} {Bk Ct : Sx → Hp → Prop}
/-- range(n), n told -/
def iItr (n : Nat) : TI := fun _ H R => R (Itr 0 n) H
theorem tyi_itr {n : Nat} : TyI W Γ (iItr n) ((List.range n).map fun i => dt K (.int (i : Nat))) := fun σ H c g R q => by
  refine q _ H (Ex.refl _ _) ⟨fun _ => True, YFn fun i => .int (0 + i), by rw [List.length_map, List.length_range]; exact walk_range, True.intro, fun M' m => ⟨fun _ _ _ _ => True.intro, fun i Ha x Hb T hT f z y => ?_⟩⟩
  obtain ⟨rfl, y⟩ := y
  obtain ⟨hl, rfl⟩ := range_map_get hT
  subst y
  refine ⟨Ex.refl _ _, ?_⟩
  show Rp M' K Hb (V.int (0 + (i : Int))) (.int (i : Int))
  rw [Int.zero_add]
  exact .int _
/-- for .. in range(e): just something is known of e -/
theorem tys_rngX {φ : Nat → Prop} (h : Ty W Γ te (exT fun n : Nat => gd (φ n) (dt K (.int (n : Nat))))) (hz : ∀ n, φ n → n ≤ 1000000000) (hs : ∀ n, φ n → TyS W Γ (tFor (iItr n) g tb) N R Bk Ct) : TyS W Γ (tFor (iRng1 (tCons te tNil)) g tb) N R Bk Ct := fun σ H c e D dn dr db dc =>
  h σ H c e _ fun v H1 e1 ⟨n, hn, hv⟩ => by
    cases hv
    have := hz n hn
    exact ⟨(n : Int), rfl, by omega, by omega, hs n hn σ H1 (c.up e1) (e.up e1.toW) D (fun σ2 H2 e2 => dn σ2 H2 (e1.toW.trans e2)) dr (fun σ2 H2 e2 => db σ2 H2 (e1.toW.trans e2)) fun σ2 H2 e2 => dc σ2 H2 (e1.toW.trans e2)⟩
end
end Ew

end
section
set_option autoImplicit false
set_option Elab.async false
set_option linter.all false
set_option maxRecDepth 100000
set_option maxHeartbeats 1000000
/-! EwM: // by any int, math.gcd, +=, starred items, dicts with int keys. -/
namespace L2
open PySem PySem.Spec PyProof.Rows
def CDivF (_ j : Int) : Prop := j ≠ 0 ∧ j.natAbs.log2 < 9000
section
variable {X : Cx} {e : Expr} {es : List Expr} {t : TA} {p pos : Pos} {te : TE}
theorem op_fdivF : OpR X (binaryOp .FloorDiv) (rI CDivF fun i j => .int (i.fdiv j)) := opI fun _ _ _ _ _ _ _ hc q => floordiv_int hc.1 q (.inl (PyProof.noPylong_of_log2 hc.2))
theorem k_gcd (m : X.mg "gcd" = some (.builtin "math.gcd")) (ha : PA X (e :: es) t) (hg : Gl X "gcd" := by rfl) (he : starEach (e :: es) X.env = (false, eval e X.env) :: starEach es X.env := by rfl) (hpl : (backTo pos (starEach es X.env)).any (·.1) = false := by rfl) :
    PE X (.Call (.Name "gcd" p) (e :: es) [] pos) (tCB rGcd t) := pe_callBfun cr_gcd hg m ha (by decide) he hpl
def rDictP (K : PySem.W.Frag) : List V → Hp → VK → Prop := fun xs H Q => ∃ (a : Addr) (ps : List Addr) (kvs : List (Key × V)), xs = [.ref a] ∧ SqL K H a (ps.map V.ref) ∧ Paired (fun p kv => SqT K H p [kV kv.1, kv.2]) ps kvs ∧
    ∀ p, H p = none → Q (.ref p) (upd H p (.dK (mergeK [] kvs)))
theorem k_dictP {K : PySem.W.Frag} (hK : X.K = K) (m : X.mg "dict" = none) (ha : PA X (e :: es) t) (hc : X.calm = true := by rfl) (hg : Gl X "dict" := by rfl) (he : starEach (e :: es) X.env = (false, eval e X.env) :: starEach es X.env := by rfl) (hpl : (backTo pos (starEach es X.env)).any (·.1) = false := by rfl) :
    PE X (.Call (.Name "dict" p) (e :: es) [] pos) (tCB (rDictP K) t) := hK ▸ pe_callTy (call_dictP hc) hg m PyProof.Rows.boot_dict ha (by decide) (by decide) he hpl
def rSortD : List V → Hp → VK → Prop := fun xs H Q => ∃ (a : Addr) (kvs : List (Key × V)) (ks : List Int), xs = [.ref a] ∧ Rd H a (.dK kvs) ∧ kvs.map (·.1) = ks.map Sum.inl ∧ ks.length < 64 ∧
    ∀ (ys : List Int) (p : Addr), ys.Perm ks → ys.Pairwise (· ≤ ·) → H p = none → Q (.ref p) (upd H p (.lst (ys.map V.int)))
theorem k_sortD (m : X.mg "sorted" = none) (ha : PA X (e :: es) t) (hc : X.calm = true := by rfl) (hg : Gl X "sorted" := by rfl) (he : starEach (e :: es) X.env = (false, eval e X.env) :: starEach es X.env := by rfl) (hpl : (backTo pos (starEach es X.env)).any (·.1) = false := by rfl) :
    PE X (.Call (.Name "sorted" p) (e :: es) [] pos) (tCB rSortD t) := pe_callB (call_sortedDI hc) hg m PyProof.Rows.boot_sorted ha (by decide) (by decide) he hpl
theorem k_star {K : PySem.W.Frag} (hK : X.K = K) (he : PE X e te) (hr : PA X es t) (hs : starEach (.Starred e p :: es) X.env = (true, eval e X.env) :: starEach es X.env := by rfl) : PA X (.Starred e p :: es) (StX.tStar K te t) := hK ▸ StX.pa_star he hr hs
theorem k_aug (i : Nat) {x : Str} {pos' : Pos} (nd : X.N.Nodup) (he : PE X e te) (hi : X.N[i]? = some x := by rfl) (hx : Loc X.env.scope x := by first | exact Or.inl rfl | exact Or.inr rfl) (hf : X.fn x = true ∨ X.env.scope.names.lookup x = some .local := by first | exact .inl rfl | exact .inr rfl) :
    PS X (.AugAssign (.Name x pos') .Add e pos) (tAug i te (ipI fun i j => i + j)) := ps_aug nd hi hx he ip_add hf
end
end L2
namespace Ew
open PySem PySem.Spec PyProof.Rows L2
section
variable {W : Wd} {Γ : Gam} {K : PySem.W.Frag} {te tb : TE} {tt : TT} {tr : TA} {T : Typ} {Ts Us : List Typ} {g : TG} {vs : List Nat} {i : Nat} {a b : Int} {ds : List (PyData × PyData)} {d : PyData} {R : V → Hp → Prop} {Bk Ct : Sx → Hp → Prop}
theorem opt_fdiv (h : CDivF a b) : OpT W (rI CDivF fun i j => .int (i.fdiv j)) (dt K (.int a)) (dt K (.int b)) (dt K (.int (a.fdiv b))) := opt_I h fun _ _ => .int _
theorem cbt_gcd : CbT W rGcd [dt K (.int a), dt K (.int b)] (dt K (.int ((Int.gcd a b : Nat) : Int))) := fun us H c hu Q q => by
  obtain ⟨v, w, rfl, h, k⟩ := hu.two
  cases h
  cases k
  exact ⟨a, b, rfl, q _ H (Ex.refl _ _) (.int _)⟩
theorem tys_aug (h0 : Γ[i]? = some (some (dt K (.int a)))) (h : Ty W Γ te (dt K (.int b))) : TyS W Γ (tAug i te (ipI fun i j => i + j)) (nE W (Γ.set i (some (dt K (.int (a + b)))))) R Bk Ct := fun σ H c e D dn _ _ _ => by
  obtain ⟨v, h1, h2⟩ := e.get h0
  cases h2
  refine ⟨_, h1, h σ H c e _ fun u H1 e1 hu => ?_⟩
  cases hu
  exact ⟨a, b, rfl, rfl, dn _ H1 e1.toW ⟨c.up e1, EnvL.set (T := dt K (.int (a + b))) (.int _) (e.up e1.toW)⟩⟩
theorem tya_star (h : Ty W Γ te (lstT Us)) (hr : TyA W Γ tr Ts) : TyA W Γ (StX.tStar K te tr) (Us ++ Ts) := fun σ H c e Q q =>
  h σ H c e _ fun v H1 e1 ⟨p, xs, h1, h0, h2, h3⟩ => ⟨p, xs, h1, .inr (SqL.of h2), hr σ H1 (c.up e1) (e.up e1.toW) _ fun ys H2 e2 hy => q _ H2 (e1.trans e2) ((h3.up e2.toW).append hy)⟩
/-- [.. for .. in range(e)]: just something is known of e -/
theorem ty_rngX {φ : Nat → Prop} (h : Ty W Γ te (exT fun n : Nat => gd (φ n) (dt K (.int (n : Nat))))) (hz : ∀ n, φ n → n ≤ 1000000000) (hs : ∀ n, φ n → Ty W Γ (tLc (iItr n) g tt tb vs) T) : Ty W Γ (tLc (iRng1 (tCons te tNil)) g tt tb vs) T := fun σ H c e Q q =>
  h σ H c e _ fun v H1 e1 ⟨n, hn, hv⟩ => by
    cases hv
    have := hz n hn
    exact ⟨(n : Int), rfl, by omega, by omega, hs n hn σ H1 (c.up e1) (e.up e1.toW) Q fun v H2 e2 z => q v H2 (e1.trans e2) z⟩
/-! ### dicts with int keys -/
def pkD (l : List (Int × Int)) : List (PyData × PyData) := l.map fun p => (.int p.1, .int p.2)
def pkK (l : List (Int × Int)) : List (Key × V) := l.map fun p => (.inl p.1, .int p.2)
theorem rpk {M : Addr → Prop} {H : Hp} : ∀ l : List (Int × Int), RpK M K H (pkK l) (pkD l)
  | [] => .nil
  | p :: l => .cons (k := Sum.inl p.1) (.int p.2) (rpk l)
theorem rpk_is {M : Addr → Prop} {H : Hp} : ∀ {l : List (Int × Int)} {kvs : List (Key × V)}, RpK M K H kvs (pkD l) → kvs = pkK l
  | [], _, h => by cases h; rfl
  | p :: l, kvs, h => by
    generalize e : pkD (p :: l) = z at h
    cases h with
    | nil => cases e
    | @cons k v vs d ds h r =>
      injection e with e1 e2
      injection e1 with e3 e4
      subst e2
      obtain rfl := rpk_is r
      subst e4
      cases h
      cases k with
      | inl i => injection e3 with e5; subst e5; rfl
      | inr s => cases e3
theorem pairs_rp {M : Addr → Prop} {H : Hp} : ∀ {l : List (Int × Int)} {xs : List V}, RpA M K H xs (l.map fun p => .tuple [.int p.1, .int p.2]) → ∃ ps : List Addr, xs = ps.map V.ref ∧ Paired (fun p kv => SqT K H p [kV kv.1, kv.2]) ps (pkK l)
  | [], _, h => by cases h; exact ⟨[], rfl, .nil⟩
  | p :: l, _, h => by
    cases h with
    | cons h r =>
      obtain ⟨ps, rfl, k⟩ := pairs_rp r
      cases h with
      | @tup a ys _ h1 h2 =>
        cases h2 with
        | cons h3 h4 =>
          cases h3
          cases h4 with
          | cons h5 h6 =>
            cases h5
            cases h6
            exact ⟨a :: ps, rfl, .cons h1 k⟩
/-- dict([(p, c), ..]), the keys differ -/
theorem ty_dictP {l : List (Int × Int)} (hm : mergeK [] (pkK l) = pkK l) (h : Ty W Γ te (dt K (.list (l.map fun p => .tuple [.int p.1, .int p.2])))) : Ty W Γ (tCB (rDictP K) (tCons te tNil)) (dt K (.dict (pkD l))) := fun σ H c e Q q =>
  h σ H c e _ fun v H1 e1 hv => by
    cases hv with
    | @lst a xs _ h1 h0 h2 =>
      obtain ⟨ps, rfl, k⟩ := pairs_rp h2
      refine ⟨a, ps, pkK l, rfl, SqL.of h1, k, fun p hp => ?_⟩
      rw [hm]
      exact q _ _ (e1.trans (Ex.new hp)) (.dic upd_same (rpk l))
theorem pk_keys (l : List (Int × Int)) : (pkK l).map (·.1) = (l.map (·.1)).map Sum.inl := by
  unfold pkK
  rw [List.map_map, List.map_map]; rfl
/-- sorted(d), the keys in order already -/
theorem ty_sortD {l : List (Int × Int)} (hl : l.length < 64) (hs : (l.map (·.1)).Pairwise (· ≤ ·)) (h : Ty W Γ te (dt K (.dict (pkD l)))) : Ty W Γ (tCB rSortD (tCons te tNil)) (dt K (.list ((l.map (·.1)).map .int))) := fun σ H c e Q q =>
  h σ H c e _ fun v H1 e1 hv => by
    cases hv with
    | @dic a kvs _ h1 h2 =>
      obtain rfl := rpk_is h2
      refine ⟨a, pkK l, l.map (·.1), rfl, .inl h1, pk_keys l, by rw [List.length_map]; exact hl, fun ys p hp hy hn => ?_⟩
      have ey : ys = l.map (·.1) := hp.eq_of_pairwise (le := (· ≤ ·)) (fun a b _ _ h1 h2 => Int.le_antisymm h1 h2) hy hs
      subst ey
      refine q _ _ (e1.trans (Ex.new hn)) (.lst upd_same (c.nm (e1.free hn)) ?_)
      have z : ∀ ns : List Int, RpA W.M K (upd H1 p (.lst ((l.map (·.1)).map V.int))) (ns.map V.int) (ns.map .int) := fun ns => by
        induction ns with
        | nil => exact .nil
        | cons n ns ih => exact .cons (.int n) ih
      exact z _
/-- d[k] -/
theorem ty_dget {l : List (Int × Int)} {k n : Int} (hk : valV (pkK l) (.inl k) = some (.int n)) (h : Ty W Γ te (dt K (.dict (pkD l)))) (hb : Ty W Γ tb (dt K (.int k))) : Ty W Γ (tDGet te tb) (dt K (.int n)) := fun σ H c e Q q =>
  h σ H c e _ fun v H1 e1 hv => hb σ H1 (c.up e1) (e.up e1.toW) _ fun u H2 e2 hu => by
    have hv2 := Rp.up e2.toW hv
    cases hu
    cases hv2 with
    | @dic a kvs _ h1 h2 =>
      obtain rfl := rpk_is h2
      exact ⟨a, .int n, rfl, .inl ⟨pkK l, .inl k, .inl h1, rfl, hk.symm⟩, q _ H2 (e1.trans e2) (.int n)⟩
end
theorem EnvL.setN {M B : Addr → Prop} {H : Hp} {x : Option V} : ∀ {Γ : Gam} {σ : Sx} (n : Nat), EnvL M B Γ σ H → EnvL M B (Γ.set n none) (σ.set n x) H
  | [], [], _, h => h
  | none :: Γ, y :: σ, 0, h => h
  | some T :: Γ, some v :: σ, 0, h => h.2
  | none :: Γ, y :: σ, n + 1, h => EnvL.setN (Γ := Γ) (σ := σ) n h
  | some T :: Γ, some v :: σ, n + 1, h => ⟨h.1, EnvL.setN (Γ := Γ) (σ := σ) n h.2⟩
  | [], _ :: _, _, h => h.elim
  | none :: _, [], _, h => h.elim
  | some _ :: _, [], _, h => h.elim
  | some _ :: _, none :: _, _, h => h.elim
def prodI (n : Int) (l : List (Int × Int)) : Int := l.foldl (fun n p => n * p.1 ^ p.2.toNat) n
/-- for p in d: for t in range(d[p]): n = n * p -/
theorem tys_dictFor {W : Wd} {Γ : Gam} {K : PySem.W.Frag} {c n p t : Nat} {l : List (Int × Int)} {n0 : Int} {R : V → Hp → Prop} {Bk Ct : Sx → Hp → Prop} (hc : Γ[c]? = some (some (dt K (.dict (pkD l))))) (hn : Γ[n]? = some (some (dt K (.int n0))))
    (hcn : c ≠ n) (hcp : c ≠ p) (hct : c ≠ t) (hnp : n ≠ p) (hnt : n ≠ t) (hpt : p ≠ t) (lp : p < Γ.length) (hv : ∀ q ∈ l, valV (pkK l) (.inl q.1) = some (.int q.2)) (hb : ∀ q ∈ l, 0 ≤ q.2 ∧ q.2 ≤ 1000 ∧ -(2 ^ 64) < q.1 ∧ q.1 < 2 ^ 64) :
    TyS W Γ (tLock (tFor (iKeys (tVar c)) (gName p) (tFor (iRng1 (tCons (tDGet (tVar c) (tVar p)) tNil)) (gName t) (tAsg (tOp rMulA (tVar n) (tVar p)) (gName n))))) (nE W (((Γ.set n (some (dt K (.int (prodI n0 l))))).set p none).set t none)) R Bk Ct := fun σ H cx g D dn _ _ _ => by
  obtain ⟨u, s1, hu⟩ := g.get hc
  obtain ⟨w, s2, hw⟩ := g.get hn
  cases hw
  cases hu with
  | @dic d kvs _ e1 e2 =>
  obtain rfl := rpk_is e2
  refine ⟨d, _, e1, trivial, fun od => ?_⟩
  have hd : upd H d (.frz od (.dK (pkK l))) d = some (.frz od (.dK (pkK l))) := upd_same
  generalize hH : upd H d (.frz od (.dK (pkK l))) = H' at hd
  refine ⟨.ref d, s1, d, od, rfl, .inl ⟨pkK l, hd, ?_⟩⟩
  have back : upd H' d (.dK (pkK l)) = H := by
    rw [← hH]
    funext x
    by_cases e : x = d
    · rw [e, upd_same, e1]
    · rw [upd_ne e, upd_ne e]
  have lenP : (pkK l).length = l.length := List.length_map _
  have lc : c < σ.length := (List.getElem?_eq_some_iff.mp s1).1
  have ln : n < σ.length := (List.getElem?_eq_some_iff.mp s2).1
  have lg : σ.length = Γ.length := g.length
  let Pv : Nat → Sx → Hp → Prop := fun i σ' H2 => H2 = H' ∧ ∃ x y, σ' = ((σ.set n (some (.int (prodI n0 (l.take i))))).set p x).set t y
  refine for_it walk_keys Pv ⟨rfl, σ[p]?.join, σ[t]?.join, ?_⟩ (fun i σ' H2 _ h => by rw [h.1]; exact hd) ?_ ?_
  · have self : ∀ (σ : Sx) (k : Nat), σ.set k σ[k]?.join = σ := fun σ k => by
      apply List.ext_getElem?
      intro j
      by_cases e : k = j
      · subst e
        by_cases z : k < σ.length
        · rw [List.getElem?_set_self z, List.getElem?_eq_getElem z]; rfl
        · rw [List.getElem?_eq_none (by rw [List.length_set]; omega), List.getElem?_eq_none (by omega)]
      · rw [List.getElem?_set_ne e]
    have a1 : σ.set n (some (.int (prodI n0 (l.take 0)))) = σ := by
      have := self σ n
      rw [s2] at this
      exact this
    rw [a1, self, self]
  · rintro i v σ' H2 H3 hi ⟨h2, x, y, rfl⟩ ⟨h3, k, v', hk, rfl⟩
    have e : H' = H3 := (h3.trans h2).symm
    subst e
    clear h3 h2
    rw [lenP] at hi
    have hq : l[i]? = some l[i] := List.getElem?_eq_getElem hi
    have mq := List.getElem_mem hi
    obtain ⟨rfl, rfl⟩ : k = Sum.inl l[i].1 ∧ v' = V.int l[i].2 := by
      unfold pkK at hk
      rw [List.getElem?_map, hq] at hk
      have := Option.some.inj hk
      exact ⟨(congrArg Prod.fst this).symm, (congrArg Prod.snd this).symm⟩
    obtain ⟨b0, b1, b2, b3⟩ := hb _ mq
    have e0 : ((((σ.set n (some (.int (prodI n0 (l.take i))))).set p x).set t y).set p (some (kV (Sum.inl l[i].1)))) = ((σ.set n (some (.int (prodI n0 (l.take i))))).set p (some (.int l[i].1))).set t y := by
      rw [List.set_comm _ _ hpt.symm, List.set_set]; rfl
    show tFor _ _ _ _ (((((σ.set n (some (.int (prodI n0 (l.take i))))).set p x).set t y).set p (some (kV (Sum.inl l[i].1))))) _
    rw [e0]
    have slot : ∀ (m : Int) (y : Option V), (((σ.set n (some (.int m))).set p (some (.int l[i].1))).set t y)[c]? = some (some (.ref d)) ∧ (((σ.set n (some (.int m))).set p (some (.int l[i].1))).set t y)[n]? = some (some (.int m)) ∧ (((σ.set n (some (.int m))).set p (some (.int l[i].1))).set t y)[p]? = some (some (.int l[i].1)) := fun m y => by
      refine ⟨?_, ?_, ?_⟩
      · rw [List.getElem?_set_ne hct.symm, List.getElem?_set_ne hcp.symm, List.getElem?_set_ne hcn.symm]; exact s1
      · rw [List.getElem?_set_ne hnt.symm, List.getElem?_set_ne hnp.symm, List.getElem?_set_self ln]
      · rw [List.getElem?_set_ne hpt.symm, List.getElem?_set_self (by rw [List.length_set, lg]; exact lp)]
    obtain ⟨c1, c2, c3⟩ := slot (prodI n0 (l.take i)) y
    refine ⟨.ref d, c1, .int l[i].1, c3, d, .int l[i].2, rfl, .inl ⟨pkK l, .inl l[i].1, .inr ⟨od, hd⟩, rfl, (hv _ mq).symm⟩, l[i].2, rfl, by omega, by omega, ?_⟩
    let Pw : Nat → Sx → Hp → Prop := fun j σ' H2 => H2 = H' ∧ ∃ y, σ' = ((σ.set n (some (.int (prodI n0 (l.take i) * l[i].1 ^ j)))).set p (some (.int l[i].1))).set t y
    refine for_it walk_range Pw ⟨rfl, y, by rw [Int.pow_zero, Int.mul_one]⟩ (fun _ _ _ _ _ => True.intro) ?_ ?_
    · rintro j v σ' H2 H3 hj ⟨hh, y, rfl⟩ yy
      obtain ⟨z1, z2⟩ := yy
      have e : H' = H3 := (z1.trans hh).symm
      subst e
      subst z2
      clear z1 hh
      have e2 : ((((σ.set n (some (.int (prodI n0 (l.take i) * l[i].1 ^ j)))).set p (some (.int l[i].1))).set t y).set t (some (.int (0 + (j : Int))))) = ((σ.set n (some (.int (prodI n0 (l.take i) * l[i].1 ^ j)))).set p (some (.int l[i].1))).set t (some (.int (0 + (j : Int)))) := by rw [List.set_set]
      show tAsg _ _ _ ((((σ.set n (some (.int (prodI n0 (l.take i) * l[i].1 ^ j)))).set p (some (.int l[i].1))).set t y).set t (some (.int (0 + (j : Int))))) _
      rw [e2]
      obtain ⟨d1, d2, d3⟩ := slot (prodI n0 (l.take i) * l[i].1 ^ j) (some (.int (0 + (j : Int))))
      refine ⟨_, d2, _, d3, .inl ⟨_, _, rfl, rfl, .inr ⟨b2, b3⟩, ?_⟩⟩
      refine ⟨rfl, some (.int (0 + (j : Int))), ?_⟩
      show (((σ.set n (some (.int (prodI n0 (l.take i) * l[i].1 ^ j)))).set p (some (.int l[i].1))).set t (some (.int (0 + (j : Int))))).set n (some (.int (prodI n0 (l.take i) * l[i].1 ^ j * l[i].1))) = _
      rw [List.set_comm _ _ hnt.symm, List.set_comm _ _ hnp.symm, List.set_set, Int.pow_succ, Int.mul_assoc]
    · rintro σ' H2 ⟨rfl, y, rfl⟩
      refine ⟨rfl, some (.int l[i].1), y, ?_⟩
      have e3 : prodI n0 (l.take (i + 1)) = prodI n0 (l.take i) * l[i].1 ^ l[i].2.toNat := by
        unfold prodI
        rw [List.take_add_one, hq]
        show List.foldl _ _ (l.take i ++ [l[i]]) = _
        rw [List.foldl_append]; rfl
      rw [e3]
  · rintro σ' H2 ⟨rfl, x, y, rfl⟩
    rw [lenP, List.take_length]
    refine ⟨hd, ?_⟩
    show D.nx _ _
    rw [back]
    exact dn _ H (Exm.refl _ _ _) ⟨cx, (((EnvL.set (T := dt K (.int (prodI n0 l))) (.int _) g)).setN p).setN t⟩
section
variable {W : Wd} {Γ : Gam} {K : PySem.W.Frag} {te t1 t2 : TE} {tt : TT} {tb tw : TS} {i n m k : Nat} {a b : Int} {N : Sx → Hp → Prop} {R : V → Hp → Prop} {Bk Ct : Sx → Hp → Prop}
/-- while, the world moves along -/
theorem tys_whileW {α : Type} (I : α → Prop) (Wi : α → Wd) (Γi : α → Gam) (mz : α → Nat) (x0 : α) (i0 : I x0) (like : ∀ x, W.Like (Wi x)) (h0 : ∀ σ H, nE W Γ σ H → nE (Wi x0) (Γi x0) σ H)
    (hs : ∀ x, I x → ∃ φ : Bool → Prop, Tt (Wi x) (Γi x) tt φ ∧ (φ true → TyS (Wi x) (Γi x) tb (fun σ H => ∃ y, I y ∧ mz y < mz x ∧ nE (Wi y) (Γi y) σ H) R N (fun σ H => ∃ y, I y ∧ mz y < mz x ∧ nE (Wi y) (Γi y) σ H)) ∧ (φ false → ∀ σ H, nE (Wi x) (Γi x) σ H → N σ H)) :
    TyS W Γ (tWhile tt tb) N R Bk Ct := fun σ H c g D dn dr db dc => by
  refine ⟨fun n σ1 H1 => ∃ x, I x ∧ mz x = n ∧ nE (Wi x) (Γi x) σ1 H1 ∧ Exm W.M W.B H H1, ⟨mz x0, x0, i0, rfl, h0 σ H ⟨c, g⟩, Exm.refl _ _ _⟩, ?_⟩
  rintro n σ1 H1 ⟨x, ix, rfl, n1, e1⟩
  obtain ⟨φ, ht, hy, hn⟩ := hs x ix
  have l := like x
  refine ht σ1 H1 n1.1 n1.2 _ fun b H2 e2 hb => ?_
  have c2 := n1.1.up e2
  have g2 := n1.2.up e2.toW
  have e12 := e1.trans (l.exm e2.toW)
  cases b with
  | true =>
    rw [if_pos rfl]
    refine ⟨fun σ' H' => ∃ y, I y ∧ mz y < mz x ∧ nE (Wi y) (Γi y) σ' H' ∧ Exm W.M W.B H H', fun σ' H' ⟨y, iy, ly, ny, ey⟩ => ⟨mz y, ly, y, iy, rfl, ny, ey⟩, ?_⟩
    exact hy hb σ1 H2 c2 g2 _ (fun σ' H' e3 ⟨y, iy, ly, ny⟩ => ⟨y, iy, ly, ny, e12.trans (l.exm e3)⟩) dr (fun σ' H' e3 n3 => dn σ' H' (e12.trans (l.exm e3)) n3) (fun σ' H' e3 ⟨y, iy, ly, ny⟩ => ⟨y, iy, ly, ny, e12.trans (l.exm e3)⟩)
  | false =>
    rw [if_neg Bool.false_ne_true]
    exact dn σ1 H2 e12 (hn hb σ1 H2 ⟨c2, g2⟩)
/-- found, a, b = [], .., ..: ints -/
theorem tys_own3 (h : TyL W Γ te []) (h1 : Ty W Γ t1 (dt K (.int a))) (h2 : Ty W Γ t2 (dt K (.int b)))
    (hb : ∀ D (nb : ¬ W.B D), ¬ W.M D → TyS (W.own D nb []) (((Γ.set n (some (isV (.ref D)))).set m (some (dt K (.int a)))).set k (some (dt K (.int b)))) tw N R noN noN) : TyS W Γ (tSeq (tPar3 n m k (tCons te (tCons t1 (tCons t2 tNil)))) tw) N R Bk Ct := fun σ H c g E dn dr db dc =>
  h σ H c g _ fun p xs H1 e hp hx1 hx2 => h1 σ H1 (c.up e) (g.up e.toW) _ fun v H2 e2 hv => h2 σ H2 (c.up (e.trans e2)) (g.up (e.trans e2).toW) _ fun w H3 e3 hw => by
    cases hv
    cases hw
    refine ⟨.ref p, .int a, .int b, rfl, ?_⟩
    have nm : ¬ W.M p := c.nm hp
    have nb : ¬ W.B p := c.nb hp
    have e13 := e.trans (e2.trans e3)
    have hx3 : H3 p = some (.lst xs) := e3.keep (e2.keep hx1 nb) nb
    have c1 := c.up e13
    have c2 : Cxt (W.own p nb []) H3 := ⟨c1.box, fun a z => z.elim (c1.al a) (fun w => by rw [w, hx3]; intro q; cases q), c1.ex, ⟨H, c.own, hp, e13⟩, c.ex.free hp, xs, hx3, by
      match xs, hx2 with
      | [], _ => exact True.intro⟩
    have g1 : EnvL (Ew.ad W.M p) W.B Γ σ H3 := (EnvL.weak hp g).up (e13.toM fun a h => .inl (W.sub a h))
    exact hb p nb nm _ H3 c2 (EnvL.set (T := dt K (.int b)) (.int b) (EnvL.set (T := dt K (.int a)) (.int a) (EnvL.set (T := isV (.ref p)) rfl g1))) E (fun σ' H' e' n => dn σ' H' (Exm.less e13 e' W.sub hp) n) dr (fun _ _ _ z => z.elim) (fun _ _ _ z => z.elim)
/-- the list is done, what follows may go on -/
theorem tys_finN {D : Addr} {nb : ¬ W.B D} {Ts : List Typ} (hi : Γ[i]? = some (some (isV (.ref D)))) (nm : ¬ W.M D) (h : TyS W (Γ.set i (some (lstT Ts))) tw N R Bk Ct) : TyS (W.own D nb Ts) Γ tw N R Bk Ct := fun σ H c g E dn dr db dc => by
  obtain ⟨v, h1, h2⟩ := g.get hi
  have hv : v = .ref D := h2
  subst hv
  obtain ⟨_, _, xs, o4, o5⟩ := c.own
  have g1 : EnvL W.M W.B Γ σ H := EnvL.drop g
  have z := EnvL.set (T := lstT Ts) (i := i) (v := .ref D) ⟨D, xs, rfl, nm, o4, o5.drop⟩ g1
  have e : σ.set i (some (V.ref D)) = σ := by
    apply List.ext_getElem?
    intro j
    by_cases hj : i = j
    · subst hj
      rw [List.getElem?_set_self (List.getElem?_eq_some_iff.mp h1).1, h1]
    · rw [List.getElem?_set_ne hj]
  rw [e] at z
  exact h σ H (own_out c) z E (fun σ' H' e n => dn σ' H' e.adM n) dr (fun σ' H' e n => db σ' H' e.adM n) fun σ' H' e n => dc σ' H' e.adM n
end
end Ew

end
section
set_option Elab.async false
set_option linter.all false
set_option maxRecDepth 100000
set_option maxHeartbeats 400000
/-! EwF: binomial numbers of any int. -/
namespace Ew
/-- how many choices -/
def chN : Nat → Nat → Nat
  | _, 0 => 1
  | 0, _ + 1 => 0
  | n + 1, k + 1 => chN n k + chN n (k + 1)
theorem chN_0 (n : Nat) : chN n 0 = 1 := by cases n <;> rfl
theorem chN_ss (n k : Nat) : chN (n + 1) (k + 1) = chN n k + chN n (k + 1) := rfl
theorem chN_mul : ∀ n k : Nat, (k + 1) * chN n (k + 1) + k * chN n k = n * chN n k
  | 0, 0 => rfl
  | 0, k + 1 => by show (k + 2) * 0 + (k + 1) * 0 = 0 * 0; omega
  | n + 1, 0 => by
    have h := chN_mul n 0
    rw [chN_ss, chN_0, chN_0]
    rw [chN_0] at h
    omega
  | n + 1, k + 1 => by
    have h1 := chN_mul n (k + 1)
    have h0 := chN_mul n k
    rw [chN_ss, chN_ss]
    generalize chN n (k + 1 + 1) = c2 at *
    generalize chN n (k + 1) = c1 at *
    generalize chN n k = c0 at *
    simp only [Nat.add_mul, Nat.mul_add, Nat.one_mul] at *
    generalize k * c0 = a at *
    generalize k * c1 = b at *
    generalize k * c2 = c at *
    generalize n * c0 = d at *
    generalize n * c1 = e at *
    omega
theorem chN_absorb (m k : Nat) : (k + 1) * chN (m + 1) (k + 1) = (m + 1) * chN m k := by
  have h := chN_mul m k
  rw [chN_ss]
  generalize chN m (k + 1) = c1 at *
  generalize chN m k = c0 at *
  simp only [Nat.add_mul, Nat.mul_add, Nat.one_mul] at *
  generalize k * c0 = a at *
  generalize k * c1 = b at *
  generalize m * c0 = d at *
  omega
theorem chN_big : ∀ n k : Nat, n < k → chN n k = 0
  | _, 0, h => absurd h (by omega)
  | 0, _ + 1, _ => rfl
  | n + 1, k + 1, h => by rw [chN_ss, chN_big n k (by omega), chN_big n (k + 1) (by omega)]
theorem chN_self : ∀ n : Nat, chN n n = 1
  | 0 => rfl
  | n + 1 => by rw [chN_ss, chN_self n, chN_big n (n + 1) (by omega)]
theorem chN_sym : ∀ n p q : Nat, p + q = n → chN n p = chN n q
  | 0, p, q, h => by
    have h1 : p = 0 := by omega
    have h2 : q = 0 := by omega
    rw [h1, h2]
  | n + 1, 0, q, h => by
    have h1 : q = n + 1 := by omega
    rw [h1, chN_self, chN_0]
  | n + 1, p + 1, 0, h => by
    have h1 : p = n := by omega
    rw [h1, chN_self, chN_0]
  | n + 1, p + 1, q + 1, h => by
    rw [chN_ss, chN_ss, chN_sym n p (q + 1) (by omega), chN_sym n (p + 1) q (by omega)]
    omega
/-- .. of any int -/
def chI (n : Int) (k : Nat) : Int := if 0 ≤ n then (chN n.toNat k : Int) else if k % 2 = 0 then (chN ((k : Int) - n - 1).toNat k : Int) else -(chN ((k : Int) - n - 1).toNat k : Int)
theorem chI_0 (n : Int) : chI n 0 = 1 := by
  unfold chI
  rw [chN_0, chN_0]
  split <;> rfl
theorem chI_succ (n : Int) (k : Nat) : ((k : Int) + 1) * chI n (k + 1) = (n - k) * chI n k := by
  unfold chI
  by_cases h : 0 ≤ n
  · rw [if_pos h, if_pos h]
    obtain ⟨m, rfl⟩ : ∃ m : Nat, n = m := ⟨n.toNat, by omega⟩
    rw [Int.toNat_natCast]
    have z : (((k + 1) * chN m (k + 1) + k * chN m k : Nat) : Int) = ((m * chN m k : Nat) : Int) := by rw [chN_mul m k]
    rw [Int.natCast_add, Int.natCast_mul, Int.natCast_mul, Int.natCast_mul] at z
    rw [Int.sub_mul, ← z, Int.add_sub_cancel]
    rfl
  · rw [if_neg h, if_neg h]
    obtain ⟨m, hm⟩ : ∃ m : Nat, (k : Int) - n - 1 = m := ⟨((k : Int) - n - 1).toNat, by omega⟩
    have e1 : ((k : Int) - n - 1).toNat = m := by omega
    have e2 : (((k + 1 : Nat) : Int) - n - 1).toNat = m + 1 := by omega
    rw [e1, e2]
    have z : (((k + 1) * chN (m + 1) (k + 1) : Nat) : Int) = (((m + 1) * chN m k : Nat) : Int) := by rw [chN_absorb m k]
    rw [Int.natCast_mul, Int.natCast_mul] at z
    have e3 : n - (k : Int) = -(((m + 1 : Nat) : Int)) := by omega
    have e4 : ((k : Int) + 1) = ((k + 1 : Nat) : Int) := rfl
    rw [e3, e4]
    by_cases p : k % 2 = 0
    · rw [if_neg (show ¬ (k + 1) % 2 = 0 by omega), if_pos p, Int.mul_neg, z, Int.neg_mul]
    · rw [if_pos (show (k + 1) % 2 = 0 by omega), if_neg p, z, Int.neg_mul_neg]
/-- the turn of the falling product -/
theorem chI_turn (n : Int) (k : Nat) : (chI n k * (n - k)) / ((k : Int) + 1) = chI n (k + 1) := by
  rw [Int.mul_comm, ← chI_succ]
  exact Int.mul_ediv_cancel_left _ (by omega)
def factN : Nat → Nat
  | 0 => 1
  | n + 1 => factN n * (n + 1)
theorem factN_pos : ∀ n, 0 < factN n
  | 0 => by decide
  | n + 1 => Nat.mul_pos (factN_pos n) (by omega)
theorem fp_ch (n : Nat) : ∀ k : Nat, PySem.Builtin.Math.fallingProduct (n : Int) k = (factN k : Int) * (chN n k : Int)
  | 0 => by rw [PySem.W.mc_fp_zero, chN_0]; rfl
  | k + 1 => by
    rw [PySem.W.mc_fp_succ, fp_ch n k]
    have z : (((k + 1) * chN n (k + 1) + k * chN n k : Nat) : Int) = ((n * chN n k : Nat) : Int) := by rw [chN_mul n k]
    rw [Int.natCast_add, Int.natCast_mul, Int.natCast_mul, Int.natCast_mul] at z
    have e : (chN n k : Int) * ((n : Int) - k) = ((k + 1 : Nat) : Int) * (chN n (k + 1) : Int) := by
      rw [Int.mul_sub, Int.mul_comm (chN n k : Int) n, ← z, Int.mul_comm (chN n k : Int) k]
      exact Int.add_sub_cancel _ _
    rw [Int.mul_assoc, e, ← Int.mul_assoc]
    show (factN k : Int) * ((k + 1 : Nat) : Int) * _ = ((factN k * (k + 1) : Nat) : Int) * _
    rw [Int.natCast_mul]
theorem fp_div (n m : Nat) : PySem.Builtin.Math.fallingProduct (n : Int) m / PySem.Builtin.Math.fallingProduct (m : Int) m = (chN n m : Int) := by
  rw [fp_ch, fp_ch, chN_self]
  have h : ((factN m : Nat) : Int) ≠ 0 := by have := factN_pos m; omega
  rw [show ((1 : Nat) : Int) = 1 from rfl, Int.mul_one]
  exact Int.mul_ediv_cancel_left _ h
/-- its size -/
theorem chN_le : ∀ n k : Nat, chN n k ≤ (n + 1) ^ k
  | _, 0 => by rw [chN_0]; exact Nat.le_refl 1
  | 0, k + 1 => Nat.zero_le _
  | n + 1, k + 1 => by
    have h1 := chN_le n k
    have h2 := chN_le n (k + 1)
    rw [chN_ss]
    have e1 : (n + 1) ^ (k + 1) = (n + 1) ^ k * (n + 1) := Nat.pow_succ _ _
    have e2 : (n + 1 + 1) ^ (k + 1) = (n + 1 + 1) ^ k * (n + 1 + 1) := Nat.pow_succ _ _
    have e3 : (n + 1) ^ k ≤ (n + 1 + 1) ^ k := Nat.pow_le_pow_left (by omega) k
    have e4 : (n + 1) ^ k * (n + 1 + 1) ≤ (n + 1 + 1) ^ k * (n + 1 + 1) := Nat.mul_le_mul_right _ e3
    rw [e2]
    refine Nat.le_trans ?_ e4
    rw [Nat.mul_succ, ← e1]
    omega
end Ew

end
section
set_option Elab.async false
set_option linter.all false
set_option maxRecDepth 100000
set_option maxHeartbeats 1000000
/-! EwJ: math.comb, tuple * 0, tuple < tuple, tuple[::-1], sorted of what has one item. -/
namespace L2
open PySem PySem.Spec PyProof.Rows
theorem _root_.PySem.Ew_fm {α β : Type} {f g : α → Option β} : ∀ {l : List α}, (∀ a ∈ l, f a = g a) → l.filterMap f = l.filterMap g
  | [], _ => rfl
  | a :: l, h => by rw [List.filterMap_cons, List.filterMap_cons, h a (.head _), Ew_fm fun b hb => h b (.tail _ hb)]
section
variable {X : Cx} {e : Expr} {es : List Expr} {t : TA} {p pos : Pos} {te : TE}
/-- comb(n, k): n as great as may be, k small -/
def rComb : List V → Hp → VK → Prop := fun xs H Q => ∃ n k : Nat, xs = [.int (n : Int), .int (k : Int)] ∧ k ≤ 40 ∧ n < 2 ^ 4096 ∧ Q (.int (Ew.chN n k : Nat)) H
theorem comb_gives {n k : Nat} (a b : Tok) (hk : k ≤ 40) (hn : n < 2 ^ 4096) : Gives (Builtin.«math.comb» ⟨[.int (n : Int) a, .int (k : Int) b], []⟩) (.int (Ew.chN n k : Nat)) := by
  by_cases h : n < k
  · rw [Ew.chN_big n k h]
    exact PySem.W.mc_run_comb0 _ a _ b (by omega) (by omega) (by omega)
  · have hb : Ew.chN n k = Ew.chN n (min k (n - k)) := by
      by_cases q : k ≤ n - k
      · rw [Nat.min_eq_left q]
      · rw [Nat.min_eq_right (by omega)]
        exact Ew.chN_sym n k (n - k) (by omega)
    have em : min (k : Int) ((n : Int) - k) = ((min k (n - k) : Nat) : Int) := by omega
    have sz : Ew.chN n (min k (n - k)) ≤ 2 ^ 200000 := by
      refine Nat.le_trans (Ew.chN_le n _) (Nat.le_trans (Nat.pow_le_pow_left (show n + 1 ≤ 2 ^ 4096 by omega) _) ?_)
      rw [← Nat.pow_mul]
      exact Nat.pow_le_pow_right (by decide) (by omega)
    have hl : (Ew.chN n (min k (n - k))).log2 < bitsLine := by
      have z : 2 ^ 200000 < 2 ^ 200001 := Nat.pow_lt_pow_right (by decide) (by decide)
      by_cases z0 : Ew.chN n (min k (n - k)) = 0
      · rw [z0]; decide
      · have l1 := (Nat.log2_lt z0).mpr (Nat.lt_of_le_of_lt sz z)
        have l2 : 200001 ≤ bitsLine := by decide
        omega
    have m1 : ¬ (((min k (n - k) : Nat) : Int) > Builtin.Math.maxSsize) := by show ¬ _ > (2 : Int) ^ 63 - 1; omega
    have m2 : ¬ (((min k (n - k) : Nat) : Int) > Builtin.Math.manyFactors) := by show ¬ _ > (20000 : Int); omega
    have z := PySem.W.mc_run_comb (n : Int) a (k : Int) b (by omega) (by omega) (by omega) (by rw [em]; exact m1) (by rw [em]; exact m2) (by omega) (by rw [em, Int.toNat_natCast, Ew.fp_div]; exact hl)
    rw [em, Int.toNat_natCast, Ew.fp_div] at z
    rw [hb]
    exact z
theorem cr_comb : CallR X (.builtin "math.comb") rComb := by
  intro pins s σ H vs us Q I r h
  obtain ⟨n, k, rfl, hk, hn, q⟩ := h
  obtain ⟨a, b, rfl⟩ := Vals.int2 r
  exact call_function_meets PySem.W.MGF.kind_comb PySem.W.MGF.plain_comb PySem.W.MGF.entry_comb (PySem.W.MGF.args_comb _ _) (comb_gives a b hk hn).meets ⟨.int _, H, I.tok _, ⟨_, rfl⟩, q⟩
theorem k_comb (m : X.mg "comb" = some (.builtin "math.comb")) (ha : PA X (e :: es) t) (hg : Gl X "comb" := by rfl) (he : starEach (e :: es) X.env = (false, eval e X.env) :: starEach es X.env := by rfl) (hpl : (backTo pos (starEach es X.env)).any (·.1) = false := by rfl) :
    PE X (.Call (.Name "comb" p) (e :: es) [] pos) (tCB rComb t) := pe_callBfun cr_comb hg m ha (by decide) he hpl
/-! ### tuple * 0 -/
theorem tuple_mulNone (l : Addr) (items : Array Value) (n : Nat) (u : Tok) (ne : items.isEmpty = false) :
    Meets (Builtin.«tuple.__mul__» ⟨[.ref l, .int 0 u], []⟩) (fun _ R s => (∃ dd sl, s.heap.get? l = some { cls := .type "tuple", dict := dd, data := .seq items n, slots := sl }) ∧ R (.ok (.ret (.ref s.heap.objs.size))) { s with heap := s.heap.push { cls := .type "tuple", data := .seq #[] }, toks := s.toks }) :=
  .of_wp fun prog w A R s h => by
    obtain ⟨hp, g, d, tk, os⟩ := s
    obtain ⟨⟨dd, sl, hl⟩, h⟩ := h
    have f1 := AutoSeq1.idx_int
    have c0 : (decide ((0 : Int) < -(2 ^ 63)) || decide ((0 : Int) ≥ 2 ^ 63)) = false := by decide
    have c1 : (items.isEmpty || (0 : Int) == 1) = false := by rw [ne]; rfl
    have c2 : (decide ((0 : Int) ≤ 0) || items.isEmpty) = true := by rw [ne]; rfl
    wp_walk using wpAny_loadPart' hl
    repeat (first
      | (refine wpAny_ite_false (decide_eq_false (by rw [c0]; exact Bool.false_ne_true)) ?_; wp_walk using wpAny_loadPart' hl)
      | (refine wpAny_ite_false (decide_eq_false (by rw [c1]; exact Bool.false_ne_true)) ?_; wp_walk using wpAny_loadPart' hl)
      | (refine wpAny_ite_true (decide_eq_true c2) ?_; wp_walk using wpAny_loadPart' hl))
    all_goals exact ⟨_, rfl, h⟩
def rRepT0 (K : PySem.W.Frag) : R2 := fun x y H Q => ∃ l xs, x = .ref l ∧ y = .int 0 ∧ SqT K H l xs ∧ xs ≠ [] ∧ ∀ p, H p = none → Q (.ref p) (upd H p (.tup []))
theorem op_repT0 : OpR X (binaryOp .Mult) (rRepT0 X.K) := by
  intro pins s σ H x y v u Q I rx ry h
  obtain ⟨l, xs, rfl, rfl, hT, hne, q⟩ := h
  cases rx
  obtain ⟨t, rfl⟩ := ry
  obtain ⟨its, r, ⟨⟨cls, dd, data, sl⟩, ho, hc, n, hd⟩, hs⟩ := I.tuple hT
  simp only at hc hd
  subst hc hd
  have ne : its.toArray.isEmpty = false := by
    cases r with
    | nil => exact absurd rfl hne
    | cons _ _ => rfl
  refine wpAny_binaryOp_repeat_ref (T := "tuple") (U := "int") (by decide) ⟨_, ho, rfl⟩ (fun s' => typeIs_int s' 0 t) noFill_tuple_mul F.fills_int_mul F.slot_int_rmul repeat_tuple F.slot_int_index.lookup
    (call_meets F.slot_int_rmul (typeIs_int s 0 t) F.entry_int_rmul (F.args_int_rmul_2 _ _) (int_rmul_tuple 0 t l its.toArray n dd sl)
      ⟨ho, rfl, ⟨_, ho, rfl⟩, call_meets F.slot_tuple_mul ⟨_, ho, rfl⟩ F.entry_tuple_mul (F.args_tuple_mul_2 _ _) (tuple_mulNone l its.toArray n t ne) ⟨⟨dd, sl, ho⟩, ?_⟩⟩)
  refine ⟨.ref s.heap.objs.size, _, I.laid (t' := s.toks) (o := .tup []) (fun b ob z => Heap.get?_push_of_some _ z) (Nat.le_refl _) ?_, rfl, q _ (I.hok.fresh (Nat.le_refl _))⟩
  exact ⟨Nat.zero_le _, [], .nil, IsTup.new _ _⟩
/-- tuple * int, from 0 on -/
def rRepAll (K : PySem.W.Frag) : R2 := fun x y H Q => rRepA K x y H Q ∨ rRepT0 K x y H Q
theorem k_repAll {K : PySem.W.Frag} (hK : X.K = K) : OpR X (binaryOp .Mult) (rRepAll K) := hK ▸ (op_repT.or op_repT1).or op_repT0
theorem k_ltT {K : PySem.W.Frag} (hK : X.K = K) (hu : X.A.units < cLine) : OpR X (compareOp .Lt) (rLtT K) := hK ▸ op_ltT hu
end
/-! ### sorted of what has at most one item -/
section
variable {prog : Program} {w : World} {A : Around} {E : Value → Shared → Prop} {s : Shared}
theorem sort_le1 {a : Addr} {vs : List Value} {n : Nat} {P : PySem.Fin → Shared → Prop} (ho : s.heap.get? a = some (seqObj "list" vs.toArray n)) (h1 : vs.length ≤ 1) (h : ∀ out : Array Value, out.toList = vs → P (.done (.ret .none)) { s with heap := sortedHeap s.heap a vs out }) :
    wpAny (model prog w) A (Builtin.«list.sort» ⟨[.ref a], []⟩) P E s :=
  SK.plain_sort (r := fun _ => 0) ho (by omega) (fun h2 => absurd h2 (by omega)) fun ps out e1 e2 _ => h out (by
    rw [e1]
    match vs, h1, e2 with
    | [], _, e2 => rw [show ps = [] from e2.eq_nil]; rfl
    | [v], _, e2 => rw [show ps = [(v, v)] from List.perm_singleton.mp e2]; rfl)
theorem sorted_le1 {x : Value} {G : List Value → Shared → Prop} {Q : Value → Shared → Prop} (hc : wpAny (model prog w) A.in1 (collect x) (fun vs s1 => vs.length ≤ 1 ∧ G vs s1) E s)
    (h : ∀ vs s1 h' p c, G vs s1 → (∀ b o, s1.heap.get? b = some o → h'.get? b = some o) → s1.heap.objs.size ≤ p → h'.get? p = some (seqObj "list" vs.toArray c) → Q (.ref p) { s1 with heap := h' }) :
    wpAny (model prog w) A (call (.builtin "sorted") [x]) Q E s := by
  refine Calls.call_function_entry kind_sorted plain_sorted entry_sorted (args_sorted1 _) ?_
  unfold Builtin.«sorted»
  refine wpAny_bind (m := checkCount "sorted" 1 1 _) (wpAny_pure (wpAny_bind (thn hc fun vs s1 ⟨h1, g⟩ => ?_)))
  refine wpAny_bind (wpAny_newList ?_ (by show vs.length ≤ _; rw [sizeLine_eq]; omega))
  have at_ : (s1.heap.push (seqObj "list" vs.toArray 0)).get? s1.heap.objs.size = some (seqObj "list" vs.toArray 0) := Heap.get?_push_size _ rfl
  refine wpAny_bind (wpAny_holding (wpAny_call_entry (s := { s1 with heap := s1.heap.push (seqObj "list" vs.toArray 0) }) slot_list_sort ⟨_, at_, rfl⟩ entry_list_sort (sort_le1 at_ h1 fun out e => ⟨_, rfl, wpAny_pure ⟨_, rfl, ?_⟩⟩) (args_list_sort _)))
  obtain ⟨c, hc⟩ := sortedHeap_at (vs := vs) (out := out) at_
  refine h vs s1 _ s1.heap.objs.size c g (fun b o q => ?_) (Nat.le_refl _) (by rw [hc, ← e])
  have l := Heap.lt_size q
  rw [sortedHeap_old (Nat.ne_of_lt l) (by rw [size_push']; exact Nat.lt_succ_of_lt l)]
  exact Heap.get?_push_of_some _ q
end
section
variable {X : Cx} {e : Expr} {es : List Expr} {t : TA} {p pos : Pos} {te : TE}
def rSort1 (K : PySem.W.Frag) : List V → Hp → VK → Prop := fun vs H Q => ∃ a xs, vs = [.ref a] ∧ SqL K H a xs ∧ xs.length ≤ 1 ∧ ∀ p, H p = none → Q (.ref p) (upd H p (.lst xs))
theorem cr_sort1 : CallR X (.builtin "sorted") (rSort1 X.K) := by
  intro pins s σ H vs us Q I r h
  obtain ⟨a, xs, rfl, hs, h1, q⟩ := h
  obtain ⟨its, rv, hl, hz⟩ := I.list hs
  rw [Vals.ref1 r]
  refine sorted_le1 (G := fun vs s1 => vs = its ∧ s1 = { s with heap := (s.heap.push (seqObj "list" #[] 0)).update s.heap.objs.size (Obj.mapSeq (· ++ its.toArray)) }) (collect_list hl.isList ⟨by rw [← rv.length]; exact h1, rfl, rfl⟩ (by rw [← rv.length, sizeLine_eq]; omega)) fun vs s1 h' p c g k hp hg => ?_
  obtain ⟨rfl, rfl⟩ := g
  have k0 : ∀ b o, s.heap.get? b = some o → h'.get? b = some o := fun b o z => k b o (by
    rw [Heap.get?_update_ne _ _ _ _ (Nat.ne_of_lt (Heap.lt_size z))]
    exact Heap.get?_push_of_some _ z)
  have hp0 : s.heap.objs.size ≤ p := Nat.le_trans (by rw [Heap.size_update, size_push']; omega) hp
  exact ⟨.ref p, upd H p (.lst xs), I.laid (t' := s.toks) k0 hp0 ⟨by rw [sizeLine_eq]; omega, vs, c, rv, hg⟩, rfl, q p (I.hok.fresh hp0)⟩
/-- sorted(set), one tuple in it at most -/
def rSortT1 (K : PySem.W.Frag) (P : Program) (w : World) : List V → Hp → VK → Prop := fun vs H Q => ∃ (a : Addr) (L : List (Addr × List Int)), vs = [V.ref a] ∧ H a = some (SetTO P w a L) ∧ (∀ p ∈ L, SqT K H p.1 (p.2.map V.int)) ∧ (∀ p ∈ L, ∀ q ∈ L, p.2 = q.2) ∧
  ∀ p, H p = none → L.length ≤ 1 → Q (.ref p) (upd H p (.lst (L.map fun q => V.ref q.1)))
theorem cr_sortT1 (hc : X.calm = true) : CallR X (.builtin "sorted") (rSortT1 X.K X.prog X.w) := by
  intro pins s σ H vs us Q I r h
  obtain ⟨a, L, rfl, ha, hk, h1, q⟩ := h
  obtain ⟨es, ep, t, R⟩ := SetT0.full (I.hok a _ ha).1 fun p hp => I.isT (hk p hp)
  have hL : L.length ≤ 1 := by
    match L, R.nd, h1 with
    | [], _, _ => exact Nat.zero_le _
    | [_], _, _ => exact Nat.le_refl _
    | x :: y :: l, nd, h1 =>
      rw [List.map_cons, List.map_cons, List.nodup_cons] at nd
      exact absurd (by rw [h1 x (.head _) y (.tail _ (.head _))]; exact .head _) nd.1
  rw [Vals.ref1 r]
  obtain ⟨o, ho, hex, hd⟩ := R.ob
  have hsz := R.size
  have hes : es.toList.map (·.2) = L.map fun q => Value.ref q.1 := by rw [R.rows]; unfold rowsOf; rw [List.map_map]; rfl
  refine sorted_le1 (G := fun vs s1 => vs = (L.map fun q => Value.ref q.1) ∧ (∀ b o, s.heap.get? b = some o → s1.heap.get? b = some o) ∧ s.heap.objs.size ≤ s1.heap.objs.size ∧ s1.gens = s.gens ∧ s1.os = s.os)
    (collect_set (I.ok.hd hc) ⟨o, ho, hex.1, hd⟩ R.fits (by unfold scanBound; omega) R.tab.ris R.led fun s1 vs k1 hz g1 o1 pm => ?_) fun vs s1 h' p c g k hp hg => ?_
  · rw [hes] at pm
    have e : vs = L.map fun q => Value.ref q.1 := by
      match L, hL, pm with
      | [], _, pm => exact pm.eq_nil
      | [x], _, pm => exact List.perm_singleton.mp pm
    exact ⟨by rw [e, List.length_map]; exact hL, e, k1, hz, g1, o1⟩
  · obtain ⟨rfl, k1, hz, g1, o1⟩ := g
    have k0 : ∀ b o, s.heap.get? b = some o → h'.get? b = some o := fun b o z => k b o (k1 b o z)
    have hp0 : s.heap.objs.size ≤ p := Nat.le_trans hz hp
    have hn : H p = none := I.hok.fresh hp0
    have J : Inv X pins σ (upd H p (.lst (L.map fun q => V.ref q.1))) { s with heap := h', gens := s1.gens, drawn := s1.drawn, toks := s1.toks } :=
      I.call (ch := []) (Un.laid k0 hp0 hn) (I.hok.laid k0 hp0 ⟨by rw [List.length_map, sizeLine_eq]; omega, _, c, vals_of_refs L, hg⟩) (by rw [g1]; exact I.bare) (fun _ z => nomatch z)
    have e : ({ s1 with heap := h' } : Shared) = { s with heap := h', gens := s1.gens, drawn := s1.drawn, toks := s1.toks } := by
      cases s1
      cases s
      cases o1
      rfl
    rw [e]
    exact ⟨.ref p, _, J, rfl, q p hn hL⟩
/-- sorted(..) of tuples of d ints in [0, B): a list, a set, or one item -/
def rSortAT (K : PySem.W.Frag) (P : Program) (w : World) (d : Nat) (B : Int) : List V → Hp → VK → Prop := fun vs H Q => (rSortedT K P w vs H Q ∨ rSortT1 K P w vs H Q) ∨ (1 ≤ d ∧ rSortU K d B vs H Q) ∨ rSort1 K vs H Q
end
/-! ### tuple[::-1] -/
section
variable {prog : Program} {w : World} {A : Around} {E : Value → Shared → Prop} {s : Shared}
theorem getItem_tuple_rev {t sl : Addr} {items : Array Value} {vl vu vs : Value} {Q : Value → Shared → Prop} (ht : IsTup s.heap t items) (hs : s.heap.IsSliceOf sl vl vu vs) (pl : IsPart vl none) (pu : IsPart vu none) (ps : IsPart vs (some (-1))) (hsz : items.size ≤ sizeLine)
    (h : Q (.ref s.heap.objs.size) { s with heap := s.heap.push { cls := .type "tuple", data := .seq items.toList.reverse.toArray } }) : wpAny (model prog w) A (getItem (.ref t) (.ref sl)) Q E s := by
  obtain ⟨os, hos, hcs, hds⟩ := id hs
  have hT : s.TypeIs (.ref sl) "slice" := ⟨os, hos, hcs⟩
  unfold getItem
  try with_reducible refine wpAny_holding ?_
  first | refine wpAny_bind (wpAny_pure ?_) | skip
  refine wpAny_bind (wpAny_sequenceKey ht.typeIs (by decide) (wpAny_bind (wpAny_callSpecial?_slot (name := Str.ofString "__getitem__") ht.typeIs PyProof.Rows.slot_tuple_getitem (wpAny_call_entry PyProof.Rows.slot_tuple_getitem ht.typeIs entry_tuple_getitem ?_ (args_tuple_getitem _ _)))))
  show wpAny _ _ (Builtin.Tuple.tupleItemsOf (.ref t) >>= _) _ _ s
  refine wpAny_bind (tupleItemsOf_ ht (wpAny_bind (wpAny_typeOf hT ?_)))
  rw [if_pos (by decide)]
  have app : ∀ {Q : Int × Int × Nat → Shared → Prop}, Q ((items.size : Int) - 1, -1, items.size) s → wpAny (model prog w) A.in1 (Builtin.Slice.sliceApplied (.ref sl) (pure (items.size : Int))) Q E s := fun {Q} q => by
    unfold Builtin.Slice.sliceApplied Builtin.Slice.sliceFields
    refine wpAny_bind (wpAny_bind (wpAny_field hos hds (x := vl) rfl (wpAny_bind (wpAny_field hos hds (x := vu) rfl (wpAny_bind (wpAny_field hos hds (x := vs) rfl (wpAny_pure ?_)))))))
    refine wpAny_bind (HT.slicePart_ ps ?_)
    show wpAny _ _ (if ((-1 : Int) == 0) = true then _ else _) _ _ s
    rw [if_neg (by decide)]
    refine wpAny_bind (HT.slicePart_ pl (wpAny_bind (HT.slicePart_ pu (wpAny_bind (wpAny_pure ?_)))))
    have e : Builtin.Slice.slicePlaces ((items.size : Int) - 1) (-1) (-1) = items.size := by
      unfold Builtin.Slice.slicePlaces
      rw [if_neg (by decide)]
      have z : ((items.size : Int) - 1 - -1 - 1) / - -1 = (items.size : Int) - 1 := by rw [show (- -1 : Int) = 1 by decide, Int.ediv_one]; omega
      rw [z]
      split <;> omega
    refine wpAny_pure ?_
    show Q ((items.size : Int) - 1, -1, Builtin.Slice.slicePlaces ((items.size : Int) - 1) (-1) (-1)) s
    rw [e]
    exact q
  refine wpAny_bind (app ?_)
  have hno : ¬ (((items.size : Int) - 1 == 0 && (-1 : Int) == 1 && items.size == items.size) = true) := fun z => by
    rw [Bool.and_eq_true, Bool.and_eq_true] at z
    exact absurd (eq_of_beq z.1.2) (by decide)
  show wpAny _ _ (if ((items.size : Int) - 1 == 0 && (-1 : Int) == 1 && items.size == items.size) = true then _ else _) _ _ s
  have pk : ((List.range items.size).filterMap fun (k : Nat) => items[((items.size : Int) - 1 + (k : Int) * -1).toNat]?).toArray = items.toList.reverse.toArray := by
    have z := PySem.W.krv_pick items
    unfold slicePick at z
    rw [PySem.W.krv_bounds] at z
    have z2 : ((sliceRange ((items.size : Int) - 1) (-1) (-1)).filterMap (items[·]?)).toArray = items.toList.reverse.toArray := z
    rw [PySem.W.krv_sliceRange, List.filterMap_map] at z2
    rw [← z2]
    refine congrArg List.toArray (PySem.Ew_fm fun k hk => Eq.symm ?_)
    have hk' := List.mem_range.mp hk
    show items[items.size - 1 - k]? = items[((items.size : Int) - 1 + (k : Int) * -1).toNat]?
    congr 1
    omega
  rw [if_neg hno, pk]
  have sz : sizeOk (.seq items.toList.reverse.toArray) := by show items.toList.reverse.toArray.size ≤ sizeLine; rw [List.size_toArray, List.length_reverse, Array.length_toList]; exact hsz
  first
    | exact wpAny_bind (m := Builtin.Tuple.tupleExact _) (wpAny_newObj_type (wpAny_pure ⟨_, rfl, wpAny_pure h⟩) sz)
    | exact wpAny_bind (m := Builtin.Tuple.tupleExact _) (wpAny_newObj_type (wpAny_bind (wpAny_pure (wpAny_pure ⟨_, rfl, wpAny_pure h⟩))) sz)
    | exact wpAny_bind (wpAny_bind (m := Builtin.Tuple.tupleExact _) (wpAny_newObj_type (wpAny_pure (wpAny_pure ⟨_, rfl, wpAny_pure h⟩)) sz))
    | exact wpAny_bind (wpAny_bind (m := Builtin.Tuple.tupleExact _) (wpAny_newObj_type (wpAny_pure ⟨_, rfl, wpAny_pure h⟩) sz))
end
section
variable {X : Cx}
def tRevT (K : PySem.W.Frag) (te : TE) : TE := fun σ H Q => te σ H fun x H1 => ∃ a xs, x = .ref a ∧ SqT K H1 a xs ∧ ∀ p, H1 p = none → Q (.ref p) (upd H1 p (.tup xs.reverse))
theorem k_revT {K : PySem.W.Frag} (hK : X.K = K) {e : Expr} {te : TE} {k : Nat} {p1 p2 p3 pos : Pos} (he : PE X e te) : PE X (.Subscript e (.Slice none none (some (.UnaryOp .USub (.Constant (.int 1) k p1) p2)) p3) pos) (tRevT K te) := by
  subst hK
  refine ⟨fun pins s σ H Q I h => Subscript_ (thn (he.run pins s σ H _ I h) fun v s1 ⟨x, H1, I1, r1, a, xs, ex, hx, q⟩ => ?_)⟩
  subst ex
  cases r1
  have hst : PO X (some (.UnaryOp .USub (.Constant (.int 1) k p1) p2)) (tPart (tUn (rU fun i => .int (-i)) (tC (.int 1)))) := po_some (pe_un un_neg pe_int)
  refine wpAny_Slice (thn (po_none.run pins s1 σ H1 (fun o H2 => o = none ∧ H2 = H1) I1 ⟨rfl, rfl⟩) fun vl s2 ⟨l, H2, I2, pl, el, e2⟩ => ?_)
  subst el e2
  refine thn (po_none.run pins s2 σ H2 (fun o H3 => o = none ∧ H3 = H2) I2 ⟨rfl, rfl⟩) fun vu s3 ⟨u, H3, I3, pu, eu, e3⟩ => ?_
  subst eu e3
  refine thn (hst.run pins s3 σ H3 (fun o H4 => o = some (-1) ∧ H4 = H3) I3 ⟨1, rfl, -1, rfl, rfl, rfl⟩) fun vs s4 ⟨o, H4, I4, ps, eo, e4⟩ => ?_
  subst eo e4
  have I5 : Inv X pins σ H4 { s4 with heap := s4.heap.push { cls := .type "slice", data := .fields #[vl, vu, vs] } } := I4.kept (t' := s4.toks) fun b ob q => Heap.get?_push_of_some _ q
  obtain ⟨its, r, ht, hz⟩ := I5.tuple hx
  refine tail_any (ops := [.ref a, .ref s4.heap.objs.size]) ht.typeIs PyProof.Rows.slot_tuple_getitem.lookup ?_ (by with_unfolding_all rfl)
  refine getItem_tuple_rev ht (Heap.IsSliceOf.new _ vl vu vs) pl pu ps (by rw [List.size_toArray, ← r.length]; exact hz) ?_
  refine ⟨.ref _, _, I5.laid (t' := s4.toks) (o := .tup xs.reverse) (fun b ob q => Heap.get?_push_of_some _ q) (Nat.le_refl _) ?_, rfl, q _ (I5.hok.fresh (Nat.le_refl _))⟩
  exact ⟨by rw [List.length_reverse]; exact hz, _, r.reverse, IsTup.new _ _⟩
end
end L2

end
section
set_option autoImplicit false
set_option Elab.async false
set_option linter.all false
set_option maxRecDepth 100000
set_option maxHeartbeats 1000000
/-! EwTa: tuples of ints: compared, sorted; loops that know more; lists of one's own that are extended; what stands while something new is changed. -/
namespace Ew
open PySem PySem.Spec PyProof.Rows L2
/-! ### the order of tuples -/
theorem lex_irr : ∀ a : List Int, HT.lexLt a a = false
  | [] => rfl
  | x :: a => by rw [HT.lexLt_cons, if_pos rfl, lex_irr a]
theorem lex_asym : ∀ {a b : List Int}, HT.lexLt a b = true → HT.lexLt b a = true → False
  | [], [], h, _ => by cases h
  | [], _ :: _, _, k => by cases k
  | _ :: _, [], h, _ => by cases h
  | x :: a, y :: b, h, k => by
    rw [HT.lexLt_cons] at h k
    by_cases e : x = y
    · rw [if_pos e] at h
      rw [if_pos e.symm] at k
      exact lex_asym h k
    · rw [if_neg e] at h
      rw [if_neg (fun z => e z.symm)] at k
      have h1 := of_decide_eq_true h
      have k1 := of_decide_eq_true k
      omega
theorem lex_trans : ∀ {a b c : List Int}, HT.lexLt a b = true → HT.lexLt b c = true → HT.lexLt a c = true
  | [], [], _, h, _ => by cases h
  | [], _ :: _, [], _, k => by cases k
  | [], _ :: _, _ :: _, _, _ => rfl
  | _ :: _, [], _, h, _ => by cases h
  | _ :: _, _ :: _, [], _, k => by cases k
  | x :: a, y :: b, z :: c, h, k => by
    rw [HT.lexLt_cons] at h k ⊢
    by_cases e : x = y
    · subst e
      rw [if_pos rfl] at h
      by_cases f : x = z
      · rw [if_pos f] at k ⊢
        exact lex_trans h k
      · rw [if_neg f] at k ⊢
        exact k
    · rw [if_neg e] at h
      have h1 := of_decide_eq_true h
      by_cases f : y = z
      · subst f
        rw [if_neg e]
        exact h
      · rw [if_neg f] at k
        have k1 := of_decide_eq_true k
        rw [if_neg (by omega)]
        exact decide_eq_true (by omega)
theorem code_lex {B : Int} : ∀ {a b : List Int}, a.length = b.length → TS.Bd B a → TS.Bd B b → HT.lexLt a b = decide (TS.code B a < TS.code B b)
  | [], [], _, _, _ => (decide_eq_false (Int.lt_irrefl _)).symm
  | [], _ :: _, h, _, _ => by cases h
  | _ :: _, [], h, _, _ => by cases h
  | x :: a, y :: b, h, h1, h2 => by
    have hl : a.length = b.length := by simpa using h
    rw [HT.lexLt_cons]
    by_cases e : x = y
    · subst e
      rw [if_pos rfl, code_lex hl h1.tail h2.tail]
      exact decide_eq_decide.mpr (TS.code_same hl).symm
    · rw [if_neg e]
      refine decide_eq_decide.mpr ⟨fun z => TS.code_lt hl h1.tail h2.tail z, fun z => ?_⟩
      rcases Int.lt_trichotomy x y with q | q | q
      · exact q
      · exact absurd q e
      · have := TS.code_lt hl.symm h2.tail h1.tail q
        omega
theorem lex_total : ∀ {a b : List Int}, a.length = b.length → a ≠ b → HT.lexLt a b = false → HT.lexLt b a = true
  | [], [], _, n, _ => absurd rfl n
  | [], _ :: _, h, _, _ => by cases h
  | _ :: _, [], h, _, _ => by cases h
  | x :: a, y :: b, h, n, k => by
    have hl : a.length = b.length := by simpa using h
    rw [HT.lexLt_cons] at k ⊢
    by_cases e : x = y
    · subst e
      rw [if_pos rfl] at k ⊢
      exact lex_total hl (fun z => n (by rw [z])) k
    · rw [if_neg e] at k
      rw [if_neg (fun z => e z.symm)]
      have k1 := of_decide_eq_false k
      exact decide_eq_true (by omega)
/-- strictly ascending -/
def asc (l : List (List Int)) : Prop := l.Pairwise fun a b => HT.lexLt a b = true
instance (l : List (List Int)) : Decidable (asc l) := inferInstanceAs (Decidable (l.Pairwise _))
theorem asc_ext : ∀ {a b : List (List Int)}, asc a → asc b → (∀ x, x ∈ a ↔ x ∈ b) → a = b
  | [], [], _, _, _ => rfl
  | [], y :: b, _, _, h => absurd ((h y).mpr (.head _)) (fun z => by cases z)
  | x :: a, [], _, _, h => absurd ((h x).mp (.head _)) (fun z => by cases z)
  | x :: a, y :: b, h1, h2, h => by
    obtain ⟨p1, p2⟩ := List.pairwise_cons.mp h1
    obtain ⟨q1, q2⟩ := List.pairwise_cons.mp h2
    have e : x = y := by
      rcases List.mem_cons.mp ((h x).mp (.head _)) with z | z
      · exact z
      · rcases List.mem_cons.mp ((h y).mpr (.head _)) with w | w
        · exact w.symm
        · exact (lex_asym (p1 y w) (q1 x z)).elim
    subst e
    rw [asc_ext p2 q2 fun z => ⟨fun hz => ?_, fun hz => ?_⟩]
    · rcases List.mem_cons.mp ((h z).mp (.tail _ hz)) with w | w
      · rw [w] at hz
        have := p1 x hz
        rw [lex_irr] at this
        cases this
      · exact w
    · rcases List.mem_cons.mp ((h z).mpr (.tail _ hz)) with w | w
      · rw [w] at hz
        have := q1 x hz
        rw [lex_irr] at this
        cases this
      · exact w
theorem asc_adj : ∀ {l : List (List Int)}, (∀ k, 1 ≤ k → k < l.length → HT.lexLt (l.getD (k - 1) []) (l.getD k []) = true) → asc l
  | [], _ => .nil
  | [x], _ => List.pairwise_singleton _ _
  | x :: y :: l, h => by
    have r : asc (y :: l) := asc_adj fun k h1 h2 => by
      have z := h (k + 1) (by omega) (by rw [List.length_cons]; omega)
      obtain ⟨m, rfl⟩ : ∃ m, k = m + 1 := ⟨k - 1, by omega⟩
      simpa using z
    have z := h 1 (by omega) (by rw [List.length_cons, List.length_cons]; omega)
    have z' : HT.lexLt x y = true := by simpa using z
    refine List.pairwise_cons.mpr ⟨fun w hw => ?_, r⟩
    rcases List.mem_cons.mp hw with e | e
    · rw [e]; exact z'
    · exact lex_trans z' ((List.pairwise_cons.mp r).1 w e)
theorem asc_nth {l : List (List Int)} (h : asc l) {k : Nat} (h1 : 1 ≤ k) (h2 : k < l.length) : HT.lexLt (l.getD (k - 1) []) (l.getD k []) = true := by
  have z := List.pairwise_iff_getElem.mp h (k - 1) k (by omega) h2 (by omega)
  rw [List.getD_eq_getElem?_getD, List.getD_eq_getElem?_getD, List.getElem?_eq_getElem h2, List.getElem?_eq_getElem (show k - 1 < l.length by omega)]
  exact z
theorem perm_mapE {α β : Type} {f : α → β} {ys zs : List β} (h : ys.Perm zs) : ∀ {l : List α}, zs = l.map f → ∃ l' : List α, ys = l'.map f ∧ l'.Perm l := by
  induction h with
  | nil => intro l e; exact ⟨l, e, List.Perm.refl _⟩
  | cons x _ ih =>
    intro l e
    match l, e with
    | a :: l, e =>
      rw [List.map_cons] at e
      injection e with e1 e2
      obtain ⟨l', h1, h2⟩ := ih e2
      exact ⟨a :: l', by rw [List.map_cons, ← e1, h1], h2.cons a⟩
  | swap x y t =>
    intro l e
    match l, e with
    | [], e => cases e
    | [a], e => rw [List.map_cons, List.map_nil] at e; injection e with e1 e2; cases e2
    | a :: b :: l, e =>
      rw [List.map_cons, List.map_cons] at e
      injection e with e1 e2
      injection e2 with e3 e4
      exact ⟨b :: a :: l, by rw [List.map_cons, List.map_cons, ← e1, ← e3, e4], List.Perm.swap a b l⟩
  | trans _ _ ih1 ih2 =>
    intro l e
    obtain ⟨l1, h1, h2⟩ := ih2 e
    obtain ⟨l2, h3, h4⟩ := ih1 h1
    exact ⟨l2, h3, h4.trans h2⟩
theorem perm_map {α β : Type} {f : α → β} {ys : List β} {l : List α} (h : ys.Perm (l.map f)) : ∃ l' : List α, ys = l'.map f ∧ l'.Perm l := perm_mapE h rfl
/-! ### tuples of ints as data -/
theorem ints_of {M : Addr → Prop} {K : PySem.W.Frag} {H : Hp} : ∀ {ns : List Int} {xs : List V}, RpA M K H xs (ns.map .int) → xs = ns.map V.int
  | [], _, h => by cases h; rfl
  | n :: ns, _, h => by
    cases h with
    | cons h1 h2 =>
      cases h1
      rw [ints_of h2]; rfl
theorem of_ints {M : Addr → Prop} {K : PySem.W.Frag} {H : Hp} : ∀ ns : List Int, RpA M K H (ns.map V.int) (ns.map .int)
  | [] => .nil
  | n :: ns => .cons (.int n) (of_ints ns)
theorem tups_of {M : Addr → Prop} {K : PySem.W.Frag} {H : Hp} : ∀ {ks : List (List Int)} {xs : List V}, RpA M K H xs (ks.map intsD) → ∃ L : List (Addr × List Int), xs = L.map (fun p => V.ref p.1) ∧ (∀ p ∈ L, SqT K H p.1 (p.2.map V.int)) ∧ L.map (·.2) = ks
  | [], _, h => by cases h; exact ⟨[], rfl, fun _ z => (by cases z), rfl⟩
  | k :: ks, _, h => by
    cases h with
    | cons h1 h2 =>
      obtain ⟨L, rfl, h3, h4⟩ := tups_of h2
      have h1 : Rp M K H _ (intsD k) := h1
      unfold intsD at h1
      cases h1 with
      | @tup a ys _ h5 h6 =>
        obtain rfl := ints_of h6
        refine ⟨(a, k) :: L, rfl, fun p hp => ?_, by rw [List.map_cons, h4]⟩
        rcases List.mem_cons.mp hp with e | e
        · rw [e]; exact h5
        · exact h3 p e
theorem of_tups {M : Addr → Prop} {K : PySem.W.Frag} {H : Hp} : ∀ {L : List (Addr × List Int)}, (∀ p ∈ L, SqT K H p.1 (p.2.map V.int)) → RpA M K H (L.map fun p => V.ref p.1) ((L.map (·.2)).map intsD)
  | [], _ => .nil
  | p :: L, h => .cons (.tup (h p (.head _)) (of_ints _)) (of_tups fun q hq => h q (.tail _ hq))
def tupsL (ks : List (List Int)) : PyData := .list (ks.map intsD)
theorem shaped_tups (m : List (List Int)) : SeqAt.shaped (tupsL m) = true := by
  have h := shaped_tab m
  unfold tabD at h
  exact h
theorem eqv_tups (a b : List (List Int)) : PyData.eqv (tupsL a) (tupsL b) = decide (a = b) := by
  have h := eqv_tab a b
  unfold tabD at h
  exact h
end Ew
namespace L2
open PySem PySem.Spec PyProof.Rows
section
variable {X : Cx} {e : Expr} {es : List Expr} {t : TA} {p pos : Pos} {te : TE}
theorem _root_.PySem.boot_set' : bootBuiltins "set" = some (.type "set") := by first | rfl | kernel_rfl
theorem k_set {K : PySem.W.Frag} {P : Program} {w : World} (hK : X.K = K) (hP : X.prog = P) (hw : X.w = w) (hu : X.A.units + 64 < cLine) (m : X.mg "set" = none) (ha : PA X (e :: es) t) (hc : X.calm = true := by rfl) (hg : Gl X "set" := by rfl) (he : starEach (e :: es) X.env = (false, eval e X.env) :: starEach es X.env := by rfl) (hpl : (backTo pos (starEach es X.env)).any (·.1) = false := by rfl) :
    PE X (.Call (.Name "set" p) (e :: es) [] pos) (tCB (rSetOfT K P w) t) := by subst hK hP hw; exact pe_callTy (cr_setOfT hc hu) hg m PySem.boot_set' ha (by decide) (by decide) he hpl
/-- sorted(set(..)) -/
def rSortST (K : PySem.W.Frag) (P : Program) (w : World) : List V → Hp → VK → Prop := fun vs H Q => rSortedT K P w vs H Q ∨ rSortT1 K P w vs H Q
theorem k_sortST {K : PySem.W.Frag} {P : Program} {w : World} (hK : X.K = K) (hP : X.prog = P) (hw : X.w = w) (m : X.mg "sorted" = none) (ha : PA X (e :: es) t) (hc : X.calm = true := by rfl) (hg : Gl X "sorted" := by rfl) (he : starEach (e :: es) X.env = (false, eval e X.env) :: starEach es X.env := by rfl) (hpl : (backTo pos (starEach es X.env)).any (·.1) = false := by rfl) :
    PE X (.Call (.Name "sorted" p) (e :: es) [] pos) (tCB (rSortST K P w) t) := by subst hK hP hw; exact pe_callB ((cr_sortedT hc).or (cr_sortT1 hc)) hg m PyProof.Rows.boot_sorted ha (by decide) (by decide) he hpl
/-- sorted(list of tuples) -/
def rSortLT (K : PySem.W.Frag) (B : Int) : List V → Hp → VK → Prop := fun vs H Q => (rSortU K 1 B vs H Q ∨ rSortU K 2 B vs H Q) ∨ rSort1 K vs H Q
theorem k_sortLT {K : PySem.W.Frag} (B : Int) (hK : X.K = K) (m : X.mg "sorted" = none) (ha : PA X (e :: es) t) (hg : Gl X "sorted" := by rfl) (he : starEach (e :: es) X.env = (false, eval e X.env) :: starEach es X.env := by rfl) (hpl : (backTo pos (starEach es X.env)).any (·.1) = false := by rfl) :
    PE X (.Call (.Name "sorted" p) (e :: es) [] pos) (tCB (rSortLT K B) t) := by subst hK; exact pe_callB (((cr_sortT (d := 1) (B := B) (by decide)).or (cr_sortT (d := 2) (B := B) (by decide))).or cr_sort1) hg m PyProof.Rows.boot_sorted ha (by decide) (by decide) he hpl
end
end L2
namespace Ew
open PySem PySem.Spec PyProof.Rows L2
section
variable {W : Wd} {Γ Γ' : Gam} {K : PySem.W.Frag} {P : Program} {w : World} {T U A C : Typ} {Ts Us : List Typ} {te tb : TE} {tl : TA} {a b : List Int} {ks : List (List Int)} {d : Nat} {n k : Nat} {ds : List PyData}
theorem cbt_comb (hk : k ≤ 40) (hn : n < 2 ^ 4096) : CbT W rComb [dt K (.int (n : Nat)), dt K (.int (k : Nat))] (dt K (.int (chN n k : Nat))) := fun us H c hu Q q => by
  obtain ⟨v, w, rfl, h, h2⟩ := hu.two
  cases h
  cases h2
  exact ⟨n, k, rfl, hk, hn, q _ H (Ex.refl _ _) (.int _)⟩
theorem opt_ltT : OpT W (rLtT K) (dt K (intsD a)) (dt K (intsD b)) (dt K (.bool (HT.lexLt a b))) := fun u v H c hu hv Q q => by
  have hu : Rp W.M K H u (intsD a) := hu
  have hv : Rp W.M K H v (intsD b) := hv
  unfold intsD at hu hv
  cases hu with
  | @tup x xs _ h1 h2 =>
    cases hv with
    | @tup y ys _ h3 h4 =>
      obtain rfl := ints_of h2
      obtain rfl := ints_of h4
      exact ⟨x, y, a, b, rfl, rfl, h1, h3, q _ H (Ex.refl _ _) (.bl _)⟩
/-- tuple * 0 and more -/
theorem opt_repAll {j : Int} (h0 : 0 ≤ j) (h1 : j ≤ 1000) (hn : ds ≠ []) (hz : ds.length ≤ 1000) : OpT W (rRepAll K) (dt K (.tuple ds)) (dt K (.int j)) (dt K (.tuple (List.replicate j.toNat ds).flatten)) := fun u v H c hu hv Q q => by
  by_cases e : j = 0
  · subst e
    cases hv
    cases hu with
    | @tup x xs _ h2 h3 =>
      refine .inr ⟨x, xs, rfl, rfl, h2, fun z => hn ?_, fun p hp => q _ _ (Ex.new hp) (.tup (SqT.of upd_same) .nil)⟩
      rw [z] at h3
      cases h3
      rfl
  · exact .inl (opt_repA (by omega) h1 hn hz u v H c hu hv Q q)
theorem rpA_rev {M : Addr → Prop} {H : Hp} : ∀ {xs : List V} {ds : List PyData}, RpA M K H xs ds → RpA M K H xs.reverse ds.reverse
  | _, _, .nil => .nil
  | _, _, .cons h r => by
    rw [List.reverse_cons, List.reverse_cons]
    exact (rpA_rev r).append (.cons h .nil)
/-- x[::-1] -/
theorem ty_revT (h : Ty W Γ te (dt K (.tuple ds))) : Ty W Γ (tRevT K te) (dt K (.tuple ds.reverse)) := fun σ H c g Q q => h σ H c g _ fun v H1 e hv => by
  cases hv with
  | @tup x xs _ h1 h2 => exact ⟨x, xs, rfl, h1, fun p hp => q _ _ (e.trans (Ex.new hp)) (.tup (SqT.of upd_same) (rpA_rev (RpA.up (Ex.new hp).toW h2)))⟩
/-- sorted(set(e)): the tuples in order, each once -/
theorem ty_sortST (hd : ∀ x ∈ ks, x.length = d ∧ TS.Bd 7 x) (hz : ks.length < 64) (h : Ty W Γ te (dt K (tupsL ks))) :
    Ty W Γ (tCB (rSortST K P w) (tCons (tCB (rSetOfT K P w) (tCons te tNil)) tNil)) (exT fun ls : List (List Int) => gd (asc ls ∧ ∀ x, x ∈ ls ↔ x ∈ ks) (dt K (tupsL ls))) := fun σ H c g Q q => h σ H c g _ fun v H1 e1 hv => by
  have hv : Rp W.M K H1 v (tupsL ks) := hv
  unfold tupsL at hv
  cases hv with
  | @lst l xs _ h1 nm h2 =>
    obtain ⟨kl, rfl, h3, h4⟩ := tups_of h2
    refine ⟨l, kl, rfl, SqL.of h1, h3, by rw [← h4, List.length_map] at hz; exact hz, fun a L ha hs1 hs2 => ?_⟩
    have c1 := c.up e1
    have e2 : Ex W.B H1 (upd H1 a (SetTO P w a L)) := Ex.new ha
    have c2 := c1.up e2
    have hB : ∀ p ∈ L, p.2.length = d ∧ TS.Bd 7 p.2 := fun p hp => hd p.2 (by rw [← h4]; exact List.mem_map.mpr ⟨p, hs1 p hp, rfl⟩)
    have hk : ∀ p ∈ L, SqT K (upd H1 a (SetTO P w a L)) p.1 (p.2.map V.int) := fun p hp => e2.sqT (h3 p (hs1 p hp))
    have mem : ∀ L' : List (Addr × List Int), L'.Perm L → ∀ x, x ∈ L'.map (·.2) ↔ x ∈ ks := fun L' pm x => by
      rw [(pm.map (·.2)).mem_iff, ← h4]
      exact ⟨fun z => by
        obtain ⟨p, hp, e⟩ := List.mem_map.mp z
        exact List.mem_map.mpr ⟨p, hs1 p hp, e⟩, fun z => by
        obtain ⟨p, hp, e⟩ := List.mem_map.mp z
        rw [← e]
        exact hs2 p hp⟩
    have fin : ∀ (L' : List (Addr × List Int)) (p : Addr), L'.Perm L → asc (L'.map (·.2)) → (upd H1 a (SetTO P w a L)) p = none → Q (.ref p) (upd (upd H1 a (SetTO P w a L)) p (.lst (L'.map fun q => V.ref q.1))) := fun L' p pm ha' hp => by
      have e3 : Ex W.B (upd H1 a (SetTO P w a L)) (upd (upd H1 a (SetTO P w a L)) p (.lst (L'.map fun q => V.ref q.1))) := Ex.new hp
      exact q _ _ (e1.trans (e2.trans e3)) ⟨L'.map (·.2), ⟨ha', mem L' pm⟩, .lst upd_same (c2.nm hp) (of_tups fun r hr => e3.sqT (hk r (pm.mem_iff.mp hr)))⟩
    by_cases d0 : 1 ≤ d
    · refine .inl ⟨a, L, d, 7, rfl, upd_same, hk, d0, hB, fun L' p pm nd _ pw hp => fin L' p pm ?_ hp⟩
      refine List.pairwise_map.mpr (List.Pairwise.imp_of_mem (fun {x y} hx hy hxy => ?_) (List.Pairwise.and pw (List.pairwise_map.mp nd)))
      obtain ⟨l1, b1⟩ := hB x (pm.mem_iff.mp hx)
      obtain ⟨l2, b2⟩ := hB y (pm.mem_iff.mp hy)
      cases z : HT.lexLt x.2 y.2 with
      | true => rfl
      | false =>
        have w1 := lex_total (by rw [l1, l2]) hxy.2 z
        rw [code_lex (by rw [l1, l2]) b2 b1] at w1
        have := of_decide_eq_true w1
        have := hxy.1
        omega
    · have nil : ∀ p ∈ L, p.2 = [] := fun p hp => List.eq_nil_of_length_eq_zero (by rw [(hB p hp).1]; omega)
      refine .inr ⟨a, L, rfl, upd_same, hk, fun p hp r hr => by rw [nil p hp, nil r hr], fun p hp hl => fin L p (List.Perm.refl _) ?_ hp⟩
      match L, hl with
      | [], _ => exact .nil
      | [x], _ => exact List.pairwise_singleton _ _
/-- sorted(e), the tuples differ -/
theorem ty_sortLT (hd : ∀ x ∈ ks, x.length = d ∧ TS.Bd 7 x) (d2 : d ≤ 2) (nd : ks.Nodup) (hz : ks.length < 64) (h : Ty W Γ te (dt K (tupsL ks))) :
    Ty W Γ (tCB (rSortLT K 7) (tCons te tNil)) (exT fun ls : List (List Int) => gd (asc ls ∧ ls.Perm ks) (dt K (tupsL ls))) := fun σ H c g Q q => h σ H c g _ fun v H1 e1 hv => by
  have hv : Rp W.M K H1 v (tupsL ks) := hv
  unfold tupsL at hv
  cases hv with
  | @lst l xs _ h1 nm h2 =>
    obtain ⟨kl, rfl, h3, h4⟩ := tups_of h2
    have c1 := c.up e1
    have hB : ∀ p ∈ kl, p.2.length = d ∧ TS.Bd 7 p.2 := fun p hp => hd p.2 (by rw [← h4]; exact List.mem_map.mpr ⟨p, hp, rfl⟩)
    have fin : ∀ (L' : List (Addr × List Int)) (p : Addr), L'.Perm kl → asc (L'.map (·.2)) → H1 p = none → Q (.ref p) (upd H1 p (.lst (L'.map fun q => V.ref q.1))) := fun L' p pm ha' hp => by
      have e3 : Ex W.B H1 (upd H1 p (.lst (L'.map fun q => V.ref q.1))) := Ex.new hp
      exact q _ _ (e1.trans e3) ⟨L'.map (·.2), ⟨ha', by rw [← h4]; exact pm.map _⟩, .lst upd_same (c1.nm hp) (of_tups fun r hr => e3.sqT (h3 r (pm.mem_iff.mp hr)))⟩
    have hz' : (kl.map fun p => V.ref p.1).length < 64 := by rw [List.length_map]; rw [← h4, List.length_map] at hz; exact hz
    have big : 1 ≤ d → rSortU K d 7 [.ref l] H1 Q := fun d0 => by
      refine ⟨l, _, rfl, SqL.of h1, hz', fun x hx => ?_, fun ys p pm pw hp => ?_⟩
      · obtain ⟨r, hr, rfl⟩ := List.mem_map.mp hx
        exact ⟨r.2, ⟨r.1, rfl, h3 r hr⟩, hB r hr⟩
      · obtain ⟨L', rfl, pm'⟩ := perm_map pm
        refine fin L' p pm' ?_ hp
        have nd' : (L'.map (·.2)).Nodup := (pm'.map (·.2)).nodup_iff.mpr (by rw [h4]; exact nd)
        refine List.pairwise_map.mpr (List.Pairwise.imp_of_mem (fun {x y} hx hy hxy => ?_) (List.Pairwise.and (List.pairwise_map.mp pw) (List.pairwise_map.mp nd')))
        have mx := pm'.mem_iff.mp hx
        have my := pm'.mem_iff.mp hy
        obtain ⟨l1, b1⟩ := hB x mx
        obtain ⟨l2, b2⟩ := hB y my
        cases z : HT.lexLt x.2 y.2 with
        | true => rfl
        | false =>
          have w1 := lex_total (by rw [l1, l2]) hxy.2 z
          rw [code_lex (by rw [l1, l2]) b2 b1] at w1
          have w2 := of_decide_eq_true w1
          have w3 := hxy.1 x.2 y.2 ⟨x.1, rfl, h3 x mx⟩ ⟨y.1, rfl, h3 y my⟩
          omega
    match d, d2, big, hB with
    | 0, _, _, hB =>
      have nil : ∀ p ∈ kl, p.2 = [] := fun p hp => List.eq_nil_of_length_eq_zero (hB p hp).1
      have le1 : kl.length ≤ 1 := by
        match kl, h4, nil with
        | [], _, _ => exact Nat.zero_le _
        | [_], _, _ => exact Nat.le_refl _
        | x :: y :: r, h4, nil =>
          rw [← h4, List.map_cons, List.map_cons, List.nodup_cons, nil x (.head _), nil y (.tail _ (.head _))] at nd
          exact absurd (.head _) nd.1
      refine .inr ⟨l, _, rfl, SqL.of h1, by rw [List.length_map]; exact le1, fun p hp => fin kl p (List.Perm.refl _) ?_ hp⟩
      match kl, le1 with
      | [], _ => exact .nil
      | [x], _ => exact List.pairwise_singleton _ _
    | 1, _, big, _ => exact .inl (.inl (big (by decide)))
    | 2, _, big, _ => exact .inl (.inr (big (by decide)))
end
end Ew

end
section
set_option autoImplicit false
set_option Elab.async false
set_option linter.all false
set_option maxRecDepth 100000
set_option maxHeartbeats 1000000
/-! EwTb: loops that know more; named values; what stands while something new is changed; lists that are extended. -/
namespace L2
open PySem PySem.Spec PyProof.Rows
section
variable {X : Cx} {o e : Expr} {to : TE} {t : TA} {apos cpos : Pos}
/-- xs.pop(i) -/
theorem k_popAt {K : PySem.W.Frag} (hK : X.K = K) (ho : PE X o to) (ha : PA X [e] t) (hbase : attributeBase o "pop" X.env (eval o X.env) = eval o X.env := by rfl)
    (hfew : ((backTo cpos (starEach [e] X.env)).all (fun x => !x.1) && (backToKw cpos (keywordEach [] X.env)).all (fun x => x.1.isSome) && decide ([e].length + ([] : List Keyword).length + (if ([] : List Keyword).isEmpty then 0 else 1) < 30)) = true := by rfl)
    (hline : (apos.endLine == cpos.line) = true := by rfl) (hs : starEach [e] X.env = (false, eval e X.env) :: starEach [] X.env := by rfl) (hplain : (backTo cpos (starEach [] X.env)).any (·.1) = false := by rfl) :
    PE X (.Call (.Attribute o "pop" apos) [e] [] cpos) (tBM K "list" rPopAt to t) := hK ▸ pe_bm PySem.F.plainAttrs_list PySem.F.slot_list_pop PySem.F.type_list_pop mt_popAt ho ha hbase hfew hline hs hplain
theorem k_extend {K : PySem.W.Frag} (hK : X.K = K) (ho : PE X o to) (ha : PA X [e] t) (hbase : attributeBase o "extend" X.env (eval o X.env) = eval o X.env := by rfl)
    (hfew : ((backTo cpos (starEach [e] X.env)).all (fun x => !x.1) && (backToKw cpos (keywordEach [] X.env)).all (fun x => x.1.isSome) && decide ([e].length + ([] : List Keyword).length + (if ([] : List Keyword).isEmpty then 0 else 1) < 30)) = true := by rfl)
    (hline : (apos.endLine == cpos.line) = true := by rfl) (hs : starEach [e] X.env = (false, eval e X.env) :: starEach [] X.env := by rfl) (hplain : (backTo cpos (starEach [] X.env)).any (·.1) = false := by rfl) :
    PE X (.Call (.Attribute o "extend" apos) [e] [] cpos) (tBM K "list" rExtend to t) := hK ▸ pe_bm PySem.F.plainAttrs_list PySem.F.slot_list_extend PySem.F.type_list_extend mt_extend ho ha hbase hfew hline hs hplain
end
end L2
namespace Ew
open PySem PySem.Spec PyProof.Rows L2
section
variable {W : Wd} {Γ Γ' : Gam} {K : PySem.W.Frag} {T U A C : Typ} {Ts Us : List Typ} {te ta tb : TE} {tl : TA} {g : TG} {i j : Nat} {N : Sx → Hp → Prop} {R : V → Hp → Prop} {Bk Ct : Sx → Hp → Prop} {u : V} {d : PyData}
/-- for: before turn i it is known that P i x -/
theorem tys_forP {α : Type} {wi : TI} {tb : TS} (P : Nat → α → Prop) (Wi : Nat → α → Wd) (Γi : Nat → α → Gam) (x0 : α) (p0 : P 0 x0) (hi : TyI W Γ wi Ts) (like : ∀ i x, W.Like (Wi i x)) (h0 : ∀ σ H, nE W Γ σ H → nE (Wi 0 x0) (Γi 0 x0) σ H)
    (hs : ∀ i T x, Ts[i]? = some T → P i x → ∃ Γt, TyG (Wi i x) (Γi i x) g T Γt ∧ TyS (Wi i x) Γt tb (fun σ H => ∃ y, P (i + 1) y ∧ nE (Wi (i + 1) y) (Γi (i + 1) y) σ H) R N (fun σ H => ∃ y, P (i + 1) y ∧ nE (Wi (i + 1) y) (Γi (i + 1) y) σ H))
    (hd : ∀ x σ H, P Ts.length x → nE (Wi Ts.length x) (Γi Ts.length x) σ H → N σ H) : TyS W Γ (tFor wi g tb) N R Bk Ct := fun σ H c e D dn dr db dc => by
  refine hi σ H c e _ fun J H1 e1 hw => ?_
  obtain ⟨G, Y, w, hG, hup⟩ := hw
  obtain ⟨hup, hy⟩ := hup W.M (.inl rfl)
  refine for_it w (D := D) (fun i σ2 H2 => Exm W.M W.B H1 H2 ∧ G H2 ∧ ∃ x, P i x ∧ nE (Wi i x) (Γi i x) σ2 H2) ?_ (fun i σ2 H2 _ h => h.2.1) ?_ ?_
  · exact ⟨Exm.refl _ _ _, hG, x0, p0, h0 σ H1 ⟨c.up e1, e.up e1.toW⟩⟩
  · rintro i v σ2 H2 H3 hi ⟨e2, hG2, x, px, c2, g2⟩ hx
    have hT : Ts[i]? = some (Ts[i]'hi) := List.getElem?_eq_getElem hi
    obtain ⟨e3, hxt⟩ := hy i H2 v H3 _ hT e2 hG2 hx
    obtain ⟨Γt, k1, k2⟩ := hs i _ x hT px
    have l := like i x
    have e3' : Ex (Wi i x).B H2 H3 := by rw [l.b]; exact e3
    have hxt' : (Ts[i]'hi).at (Wi i x) v H3 := by show Typ.p _ _ _ _ _; rw [l.m, l.b]; exact hxt
    refine k1 v σ2 H3 (c2.up e3') (g2.up e3'.toW) hxt' _ fun σ4 H4 e4 g4 => ?_
    have e4b : Ex W.B H3 H4 := by rw [← l.b]; exact e4
    have e24 : Exm W.M W.B H2 H4 := (e3.trans e4b).toW
    refine k2 σ4 H4 ((c2.up e3').up e4) g4 _ (fun σ5 H5 e5 n5 => ⟨e2.trans (e24.trans (l.exm e5)), hup _ _ (e24.trans (l.exm e5)) hG2, n5⟩) dr (fun σ5 H5 e5 n5 => dn σ5 H5 (e1.toW.trans (e2.trans (e24.trans (l.exm e5)))) n5)
      (fun σ5 H5 e5 n5 => ⟨e2.trans (e24.trans (l.exm e5)), hup _ _ (e24.trans (l.exm e5)) hG2, n5⟩)
  · rintro σ2 H2 ⟨e2, hG2, x, px, n2⟩
    exact dn σ2 H2 (e1.toW.trans e2) (hd x σ2 H2 px n2)
/-- data whose value has a name -/
abbrev nmT (K : PySem.W.Frag) (u : V) (d : PyData) : Typ := anT (isV u) (dt K d)
theorem ty_nmD (h : Γ[i]? = some (some (nmT K u d))) : Ty W Γ (tVar i) (dt K d) := (ty_var h).sub fun _ _ _ z => z.2
theorem ty_nmV (h : Γ[i]? = some (some (nmT K u d))) : Ty W Γ (tVar i) (isV u) := (ty_var h).sub fun _ _ _ z => z.1
theorem opt_exR {α : Type} {A C : Typ} {P : α → Typ} {r : R2} (h : ∀ x, OpT W r A (P x) C) : OpT W r A (exT P) C := fun u v H c hu ⟨x, hv⟩ Q q => h x u v H c hu hv Q q
/-- something is known of nothing more: a value may get its name -/
theorem TyS.nameV {ts : TS} (hi : Γ[i]? = some (some T)) (h : ∀ u, TyS W (Γ.set i (some (anT (isV u) T))) ts N R Bk Ct) : TyS W Γ ts N R Bk Ct := fun σ H c g => by
  obtain ⟨v, h1, h2⟩ := g.get hi
  have e : σ.set i (some v) = σ := by
    apply List.ext_getElem?
    intro j
    by_cases hj : i = j
    · subst hj
      rw [List.getElem?_set_self (List.getElem?_eq_some_iff.mp h1).1, h1]
    · rw [List.getElem?_set_ne hj]
  have z := EnvL.set (T := anT (isV v) T) (i := i) (v := v) ⟨rfl, h2⟩ g
  rw [e] at z
  exact h v σ H c z
/-- found.extend(e), found the own list, e a new one -/
theorem tys_extend {D : Addr} {nb : ¬ W.B D} (hi : Γ[i]? = some (some (isV (.ref D)))) (h : TyL (W.own D nb Ts) Γ te Us) (hz : Ts.length + Us.length ≤ 1000000) : TyS (W.own D nb Ts) Γ (tDrop (tBM K "list" rExtend (tVar i) (tCons te tNil))) (nE (W.own D nb (Ts ++ Us)) Γ) R Bk Ct := fun σ H c g E dn dr db dc => by
  obtain ⟨v, h1, h2⟩ := g.get hi
  have hv : v = .ref D := h2
  subst hv
  obtain ⟨_, _, xs0, q0, _⟩ := c.own
  refine ⟨.ref D, h1, .inl ⟨rfl, _, SqL.of q0⟩, h σ H c g _ fun b zs H2 e hb h3 h4 => ?_⟩
  have c2 := c.up e
  obtain ⟨_, _, xs, q1, q2⟩ := c2.own
  have put : Exm (Ew.ad W.M D) W.B H2 (upd H2 D (.lst (xs ++ zs))) := Exm.put (.inr rfl) nb q1
  have w := own_put (nb := nb) (Ts := Ts) (Us := Ts ++ Us) (ys := xs ++ zs) c2 q1 ((q2.append h4).up put)
  exact ⟨D, b, xs, zs, rfl, rfl, q1, h3, by rw [q2.length, h4.length]; exact sz_le hz, dn σ _ (e.toW.trans w.2) ⟨w.1, (g.up e.toW).up w.2⟩⟩
/-! ### while something new is changed -/
theorem exm_some {M B : Addr → Prop} {H H' : Hp} {a : Addr} (e : Exm M B H H') (h : H a ≠ none) : H' a ≠ none := by
  cases q : H a with
  | none => exact absurd q h
  | some o => rcases e a o q with r | ⟨_, _, ⟨ys, r⟩, _⟩ <;> (rw [r]; intro w; cases w)
/-- as it was at Hs -/
def frT (Hs : Hp) (T : Typ) : Typ where
  p := fun M B v H => (∀ a, Hs a ≠ none → H a ≠ none) ∧ T.p M B v Hs
  up := fun e h => ⟨fun a z => exm_some e (h.1 a z), h.2⟩
  weak := fun n h => ⟨h.1, T.weak (Classical.byContradiction fun q => h.1 _ q n) h.2⟩
  drop := fun h => ⟨h.1, T.drop h.2⟩
/-- the world since Hs -/
def Wd.since (W : Wd) (Hs : Hp) : Wd := ⟨W.M, W.B, W.H0, fun H => W.Ω H ∧ Ex W.B Hs H, W.sub, fun e ⟨h1, h2⟩ => ⟨W.kept e h1, h2.trans e⟩⟩
theorem ty_fr {Hs : Hp} (h : Γ[i]? = some (some (frT Hs T))) : Ty (W.since Hs) Γ (tVar i) T := (ty_var h).sub fun v H c z => T.up (Ex.toM c.own.2 W.sub) z.2
/-- as TyS, what is new may change -/
def TyV (W : Wd) (Γ : Gam) (ts : TS) (N : Sx → Hp → Prop) (R : V → Hp → Prop) : Prop := ∀ σ H, Cxt W H → EnvW W Γ σ H → ∀ D : Ends, (∀ σ' H', N σ' H' → D.nx σ' H') → (∀ v H', R v H' → D.rt v H') → ts D σ H
theorem TyS.tyv {ts : TS} (h : TyS W Γ ts N R noN noN) : TyV W Γ ts N R := fun σ H c g D dn dr => h σ H c g D (fun σ' H' _ n => dn σ' H' n) dr (fun _ _ _ z => z.elim) fun _ _ _ z => z.elim
theorem tyv_seq {ts tw : TS} {W' : Wd} {Γ' : Gam} {N' : Sx → Hp → Prop} (h1 : TyV W Γ ts (nE W' Γ') R) (h2 : TyV W' Γ' tw N' R) : TyV W Γ (tSeq ts tw) N' R := fun σ H c g D dn dr => h1 σ H c g { D with nx := tw D } (fun σ' H' n => h2 σ' H' n.1 n.2 D dn dr) dr
theorem tyv_seqS {ts tw : TS} {Γ' : Gam} {N' : Sx → Hp → Prop} (h1 : TyS W Γ ts (nE W Γ') R noN noN) (h2 : TyV W Γ' tw N' R) : TyV W Γ (tSeq ts tw) N' R := tyv_seq h1.tyv h2
theorem tyv_guard {ts tw : TS} {tt : TT} {φ : Bool → Prop} (hc : Tt W Γ tt φ) (h1 : φ true → TyV W Γ ts noN R) (h2 : φ false → TyV W Γ tw N R) : TyV W Γ (tSeq (tIfS tt ts tNext) tw) N R := fun σ H c g D dn dr => hc σ H c g _ fun b H1 e hb => by
  cases b with
  | true => rw [if_pos rfl]; exact h1 hb σ H1 (c.up e) (g.up e.toW) _ (fun _ _ z => z.elim) dr
  | false => rw [if_neg Bool.false_ne_true]; exact h2 hb σ H1 (c.up e) (g.up e.toW) D dn dr
theorem TyV.imp {ts : TS} {N' : Sx → Hp → Prop} (h : TyV W Γ ts N R) (k : ∀ σ H, N σ H → N' σ H) : TyV W Γ ts N' R := fun σ H c g D dn dr => h σ H c g D (fun σ' H' n => dn σ' H' (k σ' H' n)) dr
theorem env_fr {M B : Addr → Prop} {Hs : Hp} : ∀ {Γ : Gam} {σ : Sx}, EnvL M B Γ σ Hs → EnvL M B (Γ.map fun T => T.map (frT Hs)) σ Hs
  | [], [], h => h
  | none :: Γ, _ :: σ, h => env_fr (Γ := Γ) h
  | some T :: _, some _ :: _, h => ⟨⟨fun _ z => z, h.1⟩, env_fr h.2⟩
  | [], _ :: _, h => h.elim
  | none :: _, [], h => h.elim
  | some _ :: _, [], h => h.elim
  | some _ :: _, none :: _, h => h.elim
/-- a turn during which something new is changed -/
theorem tys_since {ts : TS} {N' : Sx → Hp → Prop} (h : ∀ Hs, TyV (W.since Hs) (Γ.map fun T => T.map (frT Hs)) ts (fun σ H => Cxt (W.since Hs) H ∧ N' σ H) R) (k : ∀ Hs σ H, Cxt (W.since Hs) H → N' σ H → N σ H) : TyS W Γ ts N R Bk Ct := fun σ H c g D dn dr _ _ =>
  h H σ H ⟨c.box, c.al, c.ex, c.own, Ex.refl _ _⟩ (env_fr g) D (fun σ' H' ⟨c', n⟩ => dn σ' H' (Ex.toM c'.own.2 W.sub) (k H σ' H' c' n)) dr
end
end Ew

end
set_option Elab.async false
set_option linter.all false
set_option maxRecDepth 100000
set_option maxHeartbeats 400000
namespace Lk08
section
open PySem L2 Ew
local macro_rules | `(tactic| tm_at "side") => `(tactic| first | assumption | omega | decide | (exact sm_mul (by assumption) (by assumption)) | (exact ⟨by decide, by decide, by decide⟩) | (exact ⟨by decide, by decide⟩) | (exact .inl ⟨by decide, by decide⟩) | (exact .inr ⟨by decide, by decide⟩) | (simp only [List.length_cons, List.length_nil, List.length_map, List.length_range]; omega) | rfl)
local macro_rules | `(tactic| tm_at "op") => `(tactic| first
  | (with_reducible exact opt_add) | (with_reducible exact opt_sub) | (with_reducible exact opt_lt) | (with_reducible exact opt_le) | (with_reducible exact opt_gt) | (with_reducible exact opt_ge)
  | (with_reducible exact opt_eqI) | (with_reducible exact opt_neI) | (with_reducible exact opt_eqB) | (with_reducible exact opt_neB) | (with_reducible exact opt_eqS) | (with_reducible exact opt_neS)
  | (with_reducible exact opt_isN) | (with_reducible exact opt_notN) | (with_reducible exact opt_isB)
  | ((with_reducible refine' opt_mod ?s1); (case s1 => tm_at "side"))
  | ((with_reducible refine' opt_catT ?s1); (case s1 => tm_at "side"))
  | ((with_reducible refine' opt_catL ?s1); (case s1 => tm_at "side"))
  | (with_reducible exact opt_ix0)
  | ((with_reducible refine' opt_ixT ?s1); (case s1 => tm_at "side"))
  | ((with_reducible refine' opt_ixL ?s1); (case s1 => tm_at "side"))
  | ((with_reducible refine' opt_mul ?s1); (case s1 => tm_at "side"))
  | ((with_reducible refine' opt_mulW ?s1); (case s1 => tm_at "side"))
  | ((with_reducible refine' opt_div ?s1); (case s1 => tm_at "side"))
  | ((with_reducible refine' opt_pow ?s1); (case s1 => tm_at "side"))
  | ((with_reducible refine' opt_eqD ?s1 ?s2); (case s1 => tm_at "side"); (case s2 => tm_at "side"))
  | ((with_reducible refine' opt_neD ?s1 ?s2); (case s1 => tm_at "side"); (case s2 => tm_at "side")))
local macro_rules | `(tactic| tm_at "cb") => `(tactic| first
  | (with_reducible exact cbt_lenT) | (with_reducible exact cbt_lenL) | (with_reducible exact cbt_lenLT) | ((with_reducible refine' cbt_lenS ?s1); (case s1 => tm_at "side"))
  | ((with_reducible refine' cbt_isi ?s1); (case s1 => decide))
  | (with_reducible exact cbt_abs) | (with_reducible exact cbt_max2) | (with_reducible exact cbt_min2) | (with_reducible exact cbt_intI) | (with_reducible exact cbt_intB)
  | (with_reducible exact cbt_sum) | (with_reducible exact cbt_all) | (with_reducible exact cbt_tupL) | (with_reducible exact cbt_tupT))
local macro_rules | `(tactic| tm_at "tya") => `(tactic| first
  | (with_reducible exact tya_nil)
  | ((with_reducible refine' tya_cons ?h1 ?h2); (case h1 => tm_at "ty"); (case h2 => tm_at "tya")))
local macro_rules | `(tactic| tm_at "ty") => `(tactic| first
  | assumption
  | ((with_reducible refine' ty_var ?h1); (case h1 => rfl))
  | (with_reducible exact ty_int) | (with_reducible exact ty_bl) | (with_reducible exact ty_non) | (with_reducible exact ty_str) | (exact ty_int (K := by assumption)) | (exact ty_bl (K := by assumption)) | (exact ty_non (K := by assumption)) | (exact ty_str (K := by assumption)) | (with_reducible exact ty_c)
  | ((with_reducible refine' ty_isi2 ?h1 ?h2 ?h3); (case h1 => tm_at "ty"); (case h2 => decide); (case h3 => decide))
  | ((with_reducible refine' ty_cb ?h1 ?h2); (case h1 => tm_at "tya"); (case h2 => tm_at "cb"))
  | ((with_reducible refine' ty_op ?h1 ?h2 ?h3); (case h1 => tm_at "ty"); (case h2 => tm_at "ty"); (case h3 => tm_at "op"))
  | ((with_reducible refine' ty_un ?h1 ?h2); (case h1 => tm_at "ty"); (case h2 => exact unt_neg))
  | ((with_reducible refine' ty_andV ?h1 ?h2); (case h1 => tm_at "ty"); (case h2 => intro _; tm_at "ty"))
  | ((with_reducible refine' ty_orV ?h1 ?h2); (case h1 => tm_at "ty"); (case h2 => intro _; tm_at "ty"))
  | ((with_reducible refine' ty_notV ?h1); (case h1 => tm_at "ty"))
  | ((with_reducible refine' ty_chain ?h1 ?h2 ?h3 ?h4 ?h5); (case h1 => tm_at "ty"); (case h2 => tm_at "ty"); (case h3 => tm_at "op"); (case h4 => intro _; tm_at "ty"); (case h5 => tm_at "op")))
local macro_rules | `(tactic| tm_at "tt") => `(tactic| first
  | ((with_reducible refine' tt_B ?h1); (case h1 => tm_at "ty"))
  | ((with_reducible refine' tt_test ?h1); (case h1 => tm_at "ty"))
  | ((with_reducible refine' tt_notB ?h1); (case h1 => tm_at "tt"))
  | ((with_reducible refine' tt_andB ?h1 ?h2); (case h1 => tm_at "tt"); (case h2 => intro _; tm_at "tt"))
  | ((with_reducible refine' tt_orB ?h1 ?h2); (case h1 => tm_at "tt"); (case h2 => intro _; tm_at "tt")))
local macro_rules | `(tactic| tm_at "tyis") => `(tactic| (refine' Ty.is ?h1 ?h2; (case h1 => tm_at "ty"); (case h2 => rfl)))
local macro_rules | `(tactic| tm_at "ttis") => `(tactic| (refine' Tt.is ?h1 ?h2; (case h1 => tm_at "tt"); (case h2 => rfl)))
local macro_rules | `(tactic| tm_at "tyad") => `(tactic| (refine' TyA.data ?h1 ?h2; (case h1 => tm_at "tya"); (case h2 => rfl)))
theorem bnot1' {b : Bool} (h : true = !b) : b = false := by cases b <;> first | rfl | cases h
theorem bnot0' {b : Bool} (h : false = !b) : b = true := by cases b <;> first | rfl | cases h
/-! ### what is handed about -/
/-- no list, no dict within -/
def noL : Nat → PyData → Prop
  | 0, _ => False
  | n + 1, .tuple ds => ∀ e ∈ ds, noL n e
  | _ + 1, .list _ => False
  | _ + 1, .dict _ => False
  | _ + 1, _ => True
theorem noL_up : ∀ {n : Nat} {d : PyData}, noL n d → noL (n + 1) d
  | 0, _, h => h.elim
  | n + 1, .tuple ds, h => fun e he => noL_up (h e he)
  | n + 1, .list _, h => h.elim
  | n + 1, .dict _, h => h.elim
  | n + 1, .str _, _ => trivial
  | n + 1, .int _, _ => trivial
  | n + 1, .none, _ => trivial
  | n + 1, .bool _, _ => trivial
/-- no deeper than n, nothing too long, ints of some forty digits; no lists within lists -/
def fine : Nat → PyData → Prop
  | 0, _ => False
  | n + 1, .list ds => ds.length < 60 ∧ ∀ e ∈ ds, fine n e ∧ noL n e
  | n + 1, .tuple ds => ds.length < 60 ∧ ∀ e ∈ ds, fine n e
  | _ + 1, .str x => x.length ≤ 100
  | _ + 1, .dict kvs => kvs = []
  | _ + 1, .int i => bd 200 i
  | _ + 1, _ => True
theorem fine_up : ∀ {n : Nat} {d : PyData}, fine n d → fine (n + 1) d
  | 0, _, h => h.elim
  | n + 1, .list ds, h => ⟨h.1, fun e he => ⟨fine_up (h.2 e he).1, noL_up (h.2 e he).2⟩⟩
  | n + 1, .tuple ds, h => ⟨h.1, fun e he => fine_up (h.2 e he)⟩
  | n + 1, .str x, h => h
  | n + 1, .dict kvs, h => h
  | n + 1, .int i, h => h
  | n + 1, .none, h => trivial
  | n + 1, .bool _, h => trivial
theorem fine_size {n : Nat} {d : PyData} (h : fine n d) : sizeD d ≤ 1000 := by
  cases n with
  | zero => exact h.elim
  | succ n =>
    cases d with
    | list ds => exact Nat.le_trans (Nat.le_of_lt h.1) (by decide)
    | tuple ds => exact Nat.le_trans (Nat.le_of_lt h.1) (by decide)
    | str x => exact Nat.le_trans h (by decide)
    | dict kvs =>
      have h : kvs = [] := h
      subst h
      exact Nat.zero_le _
    | _ => exact Nat.zero_le _
/-! ### polynomials as data -/
abbrev Term := List Int × Int
def termD (t : Term) : PyData := .tuple [intsD t.1, .int t.2]
def polD (l : List Term) : PyData := .tuple (l.map termD)
def bet6 : PyData → Bool
  | .int n => decide (0 ≤ n) && decide (n ≤ 6)
  | _ => false
def degB (items : Nat) : PyData → Bool
  | .tuple ds => decide (ds.length = items) && ds.all bet6
  | _ => false
def nzB : PyData → Bool
  | .int i => !decide (i = 0)
  | _ => false
def termB (items : Nat) : PyData → Bool
  | .tuple [a, b] => degB items a && nzB b
  | _ => false
def intOf : PyData → Int
  | .int i => i
  | _ => 0
def degsOf : PyData → List Int
  | .tuple ds => ds.map intOf
  | _ => []
def fstD : PyData → PyData
  | .tuple (a :: _) => a
  | _ => .none
def polyB (items : Nat) : PyData → Bool
  | .tuple ts => ts.all (termB items) && decide (asc (ts.map fun t => degsOf (fstD t)))
  | _ => false
structure TermOk (items : Nat) (t : Term) : Prop where
  len : t.1.length = items
  bd : TS.Bd 7 t.1
  nz : t.2 ≠ 0
theorem bet6_all : ∀ {ds : List PyData}, ds.all bet6 = true → ∃ ns : List Int, ds = ns.map .int ∧ TS.Bd 7 ns
  | [], _ => ⟨[], rfl, fun _ z => by cases z⟩
  | d :: ds, h => by
    rw [List.all_cons, Bool.and_eq_true] at h
    obtain ⟨ns, rfl, h2⟩ := bet6_all h.2
    cases d with
    | int i =>
      have h1 : (decide (0 ≤ i) && decide (i ≤ 6)) = true := h.1
      rw [Bool.and_eq_true] at h1
      have a1 := of_decide_eq_true h1.1
      have a2 := of_decide_eq_true h1.2
      refine ⟨i :: ns, rfl, fun m hm => ?_⟩
      rcases List.mem_cons.mp hm with e | e
      · rw [e]; omega
      · exact h2 m e
    | _ => exact absurd h.1 (by simp [bet6])
theorem deg_of {items : Nat} {d : PyData} (h : degB items d = true) : ∃ ns, d = intsD ns ∧ ns.length = items ∧ TS.Bd 7 ns := by
  cases d with
  | tuple ds =>
    have h : (decide (ds.length = items) && ds.all bet6) = true := h
    rw [Bool.and_eq_true] at h
    obtain ⟨ns, rfl, h2⟩ := bet6_all h.2
    exact ⟨ns, rfl, by simpa using of_decide_eq_true h.1, h2⟩
  | _ => cases h
theorem term_of {items : Nat} {d : PyData} (h : termB items d = true) : ∃ t, d = termD t ∧ TermOk items t := by
  unfold termB at h
  split at h
  · rename_i a b
    rw [Bool.and_eq_true] at h
    obtain ⟨ns, rfl, h1, h2⟩ := deg_of h.1
    cases b with
    | int i => exact ⟨(ns, i), rfl, h1, h2, by simpa [nzB] using h.2⟩
    | _ => exact absurd h.2 (by simp [nzB])
  · cases h
theorem terms_of {items : Nat} : ∀ {ts : List PyData}, (∀ t ∈ ts, termB items t = true) → ∃ l : List Term, ts = l.map termD ∧ ∀ t ∈ l, TermOk items t
  | [], _ => ⟨[], rfl, fun _ z => by cases z⟩
  | d :: ds, h => by
    obtain ⟨l, rfl, h2⟩ := terms_of fun t ht => h t (.tail _ ht)
    obtain ⟨t, rfl, h3⟩ := term_of (h _ (.head _))
    exact ⟨t :: l, rfl, fun x hx => (List.mem_cons.mp hx).elim (fun e => by rw [e]; exact h3) (h2 x)⟩
theorem degs_ints (ns : List Int) : degsOf (intsD ns) = ns := by
  show (ns.map PyData.int).map intOf = ns
  rw [List.map_map]
  exact List.map_id _
theorem degs_terms (l : List Term) : (l.map termD).map (fun t => degsOf (fstD t)) = l.map (·.1) := by
  rw [List.map_map]
  exact List.map_congr_left fun t _ => degs_ints t.1
theorem bet6_ints {ns : List Int} (h : TS.Bd 7 ns) : (ns.map PyData.int).all bet6 = true := by
  rw [List.all_map, List.all_eq_true]
  intro n hn
  obtain ⟨h1, h2⟩ := h n hn
  show (decide (0 ≤ n) && decide (n ≤ 6)) = true
  rw [decide_eq_true h1, decide_eq_true (by omega)]; rfl
theorem term_ok {items : Nat} {t : Term} (h : TermOk items t) : termB items (termD t) = true := by
  show (degB items (intsD t.1) && nzB (.int t.2)) = true
  have h1 : degB items (intsD t.1) = true := by
    show (decide ((t.1.map PyData.int).length = items) && (t.1.map PyData.int).all bet6) = true
    rw [bet6_ints h.bd, List.length_map, decide_eq_true h.len]; rfl
  have h2 : nzB (.int t.2) = true := by
    show (!decide (t.2 = 0)) = true
    rw [decide_eq_false h.nz]; rfl
  rw [h1, h2]; rfl
structure PolOk (items : Nat) (l : List Term) : Prop where
  ok : ∀ t ∈ l, TermOk items t
  as : asc (l.map (·.1))
theorem poly_of {items : Nat} {d : PyData} (h : polyB items d = true) : ∃ l, d = polD l ∧ PolOk items l := by
  cases d with
  | tuple ts =>
    have h : (ts.all (termB items) && decide (asc (ts.map fun t => degsOf (fstD t)))) = true := h
    rw [Bool.and_eq_true] at h
    obtain ⟨l, rfl, h2⟩ := terms_of (List.all_eq_true.mp h.1)
    have h3 := of_decide_eq_true h.2
    rw [degs_terms] at h3
    exact ⟨l, rfl, h2, h3⟩
  | _ => cases h
theorem poly_ok {items : Nat} {l : List Term} (h : PolOk items l) : polyB items (polD l) = true := by
  show ((l.map termD).all (termB items) && decide (asc ((l.map termD).map fun t => degsOf (fstD t)))) = true
  rw [degs_terms, decide_eq_true h.as, Bool.and_true, List.all_map, List.all_eq_true]
  exact fun t ht => term_ok (h.ok t ht)
/-! ### their values -/
def wgt (ns ds : List Int) : Int := (ns.zip ds).foldl (fun f p => f * chI p.1 p.2.toNat) 1
def valI (l : List Term) (ns : List Int) : Int := (l.map fun t => t.2 * wgt ns t.1).sum
theorem wgt_from (l : List (Int × Int)) : ∀ c : Int, l.foldl (fun f p => f * chI p.1 p.2.toNat) c = c * l.foldl (fun f p => f * chI p.1 p.2.toNat) 1 := by
  induction l with
  | nil => intro c; exact (Int.mul_one c).symm
  | cons p l ih =>
    intro c
    rw [List.foldl_cons, List.foldl_cons, ih (c * chI p.1 p.2.toNat), ih (1 * chI p.1 p.2.toNat), Int.one_mul, Int.mul_assoc]
theorem chN_bd {m k : Nat} (h : m + 1 ≤ 2 ^ 202) (hk : k ≤ 6) : bd 1300 (chN m k : Int) := by
  have h1 : chN m k ≤ (2 ^ 202) ^ 6 := Nat.le_trans (chN_le m k) (Nat.le_trans (Nat.pow_le_pow_left h k) (Nat.pow_le_pow_right (by decide) hk))
  rw [← Nat.pow_mul] at h1
  show (chN m k : Int).natAbs < 2 ^ 1300
  rw [Int.natAbs_natCast]
  exact Nat.lt_of_le_of_lt h1 (Nat.pow_lt_pow_right (by decide) (by decide))
theorem bd_neg {n : Nat} {a : Int} (h : bd n a) : bd n (-a) := by
  show (-a).natAbs < 2 ^ n
  rw [Int.natAbs_neg]; exact h
theorem pow_201 : (2 : Nat) ^ 200 + 100 ≤ 2 ^ 202 := by decide +kernel
theorem chI_bd {n : Int} {k : Nat} (h : bd 200 n) (hk : k ≤ 6) : bd 1300 (chI n k) := by
  have h : n.natAbs < 2 ^ 200 := h
  have z := pow_201
  unfold chI
  split
  · exact chN_bd (by omega) hk
  · split
    · exact chN_bd (by omega) hk
    · exact bd_neg (chN_bd (by omega) hk)
theorem bd_small {n : Int} (h : n.natAbs < 1000000) : bd 200 n := Nat.lt_trans h (by decide)
/-! ### unknown ints -/
/-- an unknown int, in bounds -/
def inT (K : PySem.W.Frag) (φ : Int → Prop) : Typ := exT fun i : Int => gd (φ i) (dt K (.int i))
theorem any_sub {W : Wd} {Γ : Gam} {te : TE} {T : Typ} {Ts : List Typ} (h : Ty W Γ te (anyT Ts)) (k : ∀ n, n < Ts.length → ∀ v H, (Ts.getD n (isV .non)).at W v H → T.at W v H) : Ty W Γ te T := h.sub fun v H _ ⟨n, hn, z⟩ => k n hn v H z
theorem rep_getD {T : Typ} {n m : Nat} (h : n < m) : (List.replicate m T).getD n (isV .non) = T := by
  rw [List.getD_eq_getElem?_getD, List.getElem?_replicate, if_pos h]; rfl
section
variable {W : Wd} {Γ : Gam} {K : PySem.W.Frag} {ta tb : TE} {φ ψ χ : Int → Prop} {tl : TA}
theorem ty_addX (ha : Ty W Γ ta (inT K φ)) (hb : Ty W Γ tb (inT K ψ)) (h : ∀ i j, φ i → ψ j → χ (i + j)) : Ty W Γ (tOp (rAddA K) ta tb) (inT K χ) := ty_op ha hb fun u v H c ⟨i, hi, hu⟩ ⟨j, hj, hv⟩ Q q => opt_add u v H c hu hv Q fun w H1 e z => q w H1 e ⟨i + j, h i j hi hj, z⟩
theorem ty_subX (ha : Ty W Γ ta (inT K φ)) (hb : Ty W Γ tb (inT K ψ)) (h : ∀ i j, φ i → ψ j → χ (i - j)) : Ty W Γ (tOp (rI0 fun i j => .int (i - j)) ta tb) (inT K χ) := ty_op ha hb fun u v H c ⟨i, hi, hu⟩ ⟨j, hj, hv⟩ Q q => opt_sub u v H c hu hv Q fun w H1 e z => q w H1 e ⟨i - j, h i j hi hj, z⟩
theorem ty_mulX (ha : Ty W Γ ta (inT K φ)) (hb : Ty W Γ tb (inT K ψ)) (h : ∀ i j, φ i → ψ j → L2.CMul i j ∧ χ (i * j)) : Ty W Γ (tOp rMulA ta tb) (inT K χ) := ty_op ha hb fun u v H c ⟨i, hi, hu⟩ ⟨j, hj, hv⟩ Q q => opt_mul (h i j hi hj).1 u v H c hu hv Q fun w H1 e z => q w H1 e ⟨i * j, (h i j hi hj).2, z⟩
theorem ty_in {i : Int} (h : Ty W Γ ta (dt K (.int i))) (k : φ i) : Ty W Γ ta (inT K φ) := h.sub fun v H _ z => ⟨i, k, z⟩
theorem dig_in {n : Nat} (h : Ty W Γ ta (digT K n)) : Ty W Γ ta (inT K fun i => 0 ≤ i ∧ i < n) := h.sub fun v H _ ⟨k, hk, z⟩ => ⟨(k : Int), ⟨by omega, by omega⟩, z⟩
theorem in_sub (h : Ty W Γ ta (inT K φ)) (k : ∀ i, φ i → ψ i) : Ty W Γ ta (inT K ψ) := h.sub fun v H _ ⟨i, hi, z⟩ => ⟨i, k i hi, z⟩
theorem tt_eqX {j : Int} (ha : Ty W Γ ta (inT K φ)) (hb : Ty W Γ tb (dt K (.int j))) : Tt W Γ (tTest (tOp (rEqA K) ta tb)) (fun _ => True) := tt_testE (K := K) (φ := fun _ => True) (ty_op ha hb fun u v H c ⟨i, hi, hu⟩ hv Q q => opt_eqI u v H c hu hv Q fun w H1 e z => q w H1 e ⟨_, trivial, z⟩)
theorem tt_gtX {j : Int} (ha : Ty W Γ ta (inT K φ)) (hb : Ty W Γ tb (dt K (.int j))) : Tt W Γ (tTest (tOp (rI0 fun i j => .bl (decide (j < i))) ta tb)) (fun _ => True) := tt_testE (K := K) (φ := fun _ => True) (ty_op ha hb fun u v H c ⟨i, hi, hu⟩ hv Q q => opt_gt u v H c hu hv Q fun w H1 e z => q w H1 e ⟨_, trivial, z⟩)
theorem ty_eqX {j : Int} (ha : Ty W Γ ta (inT K φ)) (hb : Ty W Γ tb (dt K (.int j))) : Ty W Γ (tOp (rEqA K) ta tb) (exT fun b : Bool => dt K (.bool b)) := ty_op ha hb fun u v H c ⟨i, hi, hu⟩ hv Q q => opt_eqI u v H c hu hv Q fun w H1 e z => q w H1 e ⟨_, z⟩
/-- [.., ..][take] -/
theorem ty_pickX {T : Typ} {n : Nat} (h : TyA W Γ tl (List.replicate n T)) (hb : Ty W Γ tb (digT K n)) (hn : n ≤ 1000) : Ty W Γ (tOp (rIx K) (tLst tl) tb) T :=
  any_sub (Ts := List.replicate n T) (ty_pick (n := n) (tyl_lst h (by rw [List.length_replicate]; omega)).ty hb (by rw [List.length_replicate]; exact Nat.le_refl _)) fun k hk v H z => by rw [rep_getD (by simpa using hk)] at z; exact z
end
theorem shaped_list {ds : List PyData} (h : ds.all isWholeD = true) : SeqAt.shaped (.list ds) = true := by
  obtain ⟨k1, k2⟩ := lay_whole h
  simp [SeqAt.shaped, PyData.canLay0, PyData.depth, k1, k2]
theorem opt_neNilL {W : Wd} {K : PySem.W.Frag} {ds : List PyData} (h : ds.all isWholeD = true) : OpT W (rNeA K) (dt K (.list ds)) (dt K (.list [])) (dt K (.bool (!decide (ds.length = 0)))) := by
  have z := opt_neD (W := W) (K := K) (shaped_list h) (show SeqAt.shaped (.list []) = true from rfl)
  rw [eqv_nilL] at z
  exact z
section
variable {W : Wd} {Γ : Gam} {K : PySem.W.Frag} {ta tb : TE} {i j : Int}
/-- range(i, j) -/
theorem tyi_rng2 (ha : Ty W Γ ta (dt K (.int i))) (hb : Ty W Γ tb (dt K (.int j))) (h1 : -1000000000 ≤ i) (h2 : i ≤ 1000000000) (h3 : -1000000000 ≤ j) (h4 : j ≤ 1000000000) : TyI W Γ (iRng2 (tCons ta (tCons tb tNil))) ((List.range (j - i).toNat).map fun k => dt K (.int (i + (k : Nat)))) := fun σ H c g R q =>
  ha σ H c g _ fun u H1 e1 hu => hb σ H1 (c.up e1) (g.up e1.toW) _ fun v H2 e2 hv => by
    cases hu
    cases hv
    refine ⟨i, j, rfl, ⟨by omega, by omega, by omega, by omega⟩, q _ H2 (e1.trans e2) ⟨fun _ => True, YFn fun k => .int (i + k), by rw [List.length_map, List.length_range]; exact walk_range, True.intro, fun M' m => ⟨fun _ _ _ _ => True.intro, fun k Ha x Hb T hT f z y => ?_⟩⟩⟩
    obtain ⟨rfl, y⟩ := y
    obtain ⟨hl, rfl⟩ := range_map_get hT
    subst y
    exact ⟨Ex.refl _ _, .int _⟩
theorem opt_eqNilL {ds : List PyData} (h : ds.all isWholeD = true) : OpT W (rEqA K) (dt K (.list ds)) (dt K (.list [])) (dt K (.bool (decide (ds.length = 0)))) := by
  have z := opt_eqD (W := W) (K := K) (shaped_list h) (show SeqAt.shaped (.list []) = true from rfl)
  rw [eqv_nilL] at z
  exact z
end
abbrev s_is_whole : Stmt := top 7
abbrev s_is_between : Stmt := top 8
abbrev s_is_line_of : Stmt := top 10
abbrev s_is_degrees : Stmt := top 14
abbrev s_is_polynomial_of : Stmt := top 15
abbrev s_is_polynomial : Stmt := top 16
abbrev s_check_items : Stmt := top 17
abbrev s_check_polynomial : Stmt := top 18
abbrev s_binomial : Stmt := top 19
abbrev s_weight_of : Stmt := top 20
abbrev s_value_in : Stmt := top 21
abbrev s_value_at : Stmt := top 22
abbrev s_law_box : Stmt := top 24
abbrev s_law_take : Stmt := top 25
abbrev s_law_cell : Stmt := top 26
abbrev s_law_same : Stmt := top 27
abbrev s_law_copy : Stmt := top 28
abbrev s_law_very : Stmt := top 29
abbrev s_law_mixed : Stmt := top 30
abbrev s_law_pick : Stmt := top 31
abbrev s_law_lots : Stmt := top 32
abbrev s_law_over : Stmt := top 33
abbrev s_law_whole : Stmt := top 34
abbrev s_law_poly : Stmt := top 35
abbrev s_law_value : Stmt := top 36
abbrev s_law_is_poly : Stmt := top 37
abbrev s_law_bent : Stmt := top 38
abbrev s_law_asked : Stmt := top 39
abbrev s_law_items : Stmt := top 40
abbrev s_law_poly_right : Stmt := top 41
abbrev s_law_refused_right : Stmt := top 42
abbrev s_law : Stmt := top 43
theorem sc_is_whole : FnScope ["value"] ["value"] (defScope s_is_whole) := ⟨rfl, rfl, rfl, by decide +kernel, rfl, by decide +kernel, by decide +kernel⟩
theorem sc_is_between : FnScope ["value", "least", "most"] ["value", "least", "most"] (defScope s_is_between) := ⟨rfl, rfl, rfl, by decide +kernel, rfl, by decide +kernel, by decide +kernel⟩
theorem sc_is_line_of : FnScope ["value", "width", "item"] ["value", "width"] (defScope s_is_line_of) := ⟨rfl, rfl, rfl, by decide +kernel, rfl, by decide +kernel, by decide +kernel⟩
theorem sc_is_degrees : FnScope ["value", "items", "item"] ["value", "items"] (defScope s_is_degrees) := ⟨rfl, rfl, rfl, by decide +kernel, rfl, by decide +kernel, by decide +kernel⟩
theorem sc_is_polynomial_of : FnScope ["value", "items", "term", "degrees"] ["value", "items"] (defScope s_is_polynomial_of) := ⟨rfl, rfl, rfl, by decide +kernel, rfl, by decide +kernel, by decide +kernel⟩
theorem sc_is_polynomial : FnScope ["value", "items"] ["value", "items"] (defScope s_is_polynomial) := ⟨rfl, rfl, rfl, by decide +kernel, rfl, by decide +kernel, by decide +kernel⟩
theorem sc_check_items : FnScope ["items"] ["items"] (defScope s_check_items) := ⟨rfl, rfl, rfl, by decide +kernel, rfl, by decide +kernel, by decide +kernel⟩
theorem sc_check_polynomial : FnScope ["polynomial", "items"] ["polynomial", "items"] (defScope s_check_polynomial) := ⟨rfl, rfl, rfl, by decide +kernel, rfl, by decide +kernel, by decide +kernel⟩
theorem sc_binomial : FnScope ["number", "degree", "size"] ["number", "degree"] (defScope s_binomial) := ⟨rfl, rfl, rfl, by decide +kernel, rfl, by decide +kernel, by decide +kernel⟩
theorem sc_weight_of : FnScope ["degrees", "items", "found", "number", "degree"] ["degrees", "items"] (defScope s_weight_of) := ⟨rfl, rfl, rfl, by decide +kernel, rfl, by decide +kernel, by decide +kernel⟩
theorem sc_value_in : FnScope ["polynomial", "items", "degrees", "number"] ["polynomial", "items"] (defScope s_value_in) := ⟨rfl, rfl, rfl, by decide +kernel, rfl, by decide +kernel, by decide +kernel⟩
theorem sc_value_at : FnScope ["polynomial", "items"] ["polynomial", "items"] (defScope s_value_at) := ⟨rfl, rfl, rfl, by decide +kernel, rfl, by decide +kernel, by decide +kernel⟩
theorem sc_law_box : FnScope ["great"] ["great"] (defScope s_law_box) := ⟨rfl, rfl, rfl, by decide +kernel, rfl, by decide +kernel, by decide +kernel⟩
theorem sc_law_take : FnScope ["box", "many", "digit"] ["box", "many"] (defScope s_law_take) := ⟨rfl, rfl, rfl, by decide +kernel, rfl, by decide +kernel, by decide +kernel⟩
theorem sc_law_cell : FnScope ["script", "k"] ["script", "k"] (defScope s_law_cell) := ⟨rfl, rfl, rfl, by decide +kernel, rfl, by decide +kernel, by decide +kernel⟩
theorem sc_law_same : FnScope ["told", "due", "same", "k", "key"] ["told", "due"] (defScope s_law_same) := ⟨rfl, rfl, rfl, by decide +kernel, rfl, by decide +kernel, by decide +kernel⟩
theorem sc_law_copy : FnScope ["value", "item", "key"] ["value"] (defScope s_law_copy) := ⟨rfl, rfl, rfl, by decide +kernel, rfl, by decide +kernel, by decide +kernel⟩
theorem sc_law_very : FnScope ["given", "value"] ["given", "value"] (defScope s_law_very) := ⟨rfl, rfl, rfl, by decide +kernel, rfl, by decide +kernel, by decide +kernel⟩
theorem sc_law_mixed : FnScope ["box", "items", "left", "found", "turn"] ["box", "items"] (defScope s_law_mixed) := ⟨rfl, rfl, rfl, by decide +kernel, rfl, by decide +kernel, by decide +kernel⟩
theorem sc_law_pick : FnScope ["box", "items"] ["box", "items"] (defScope s_law_pick) := ⟨rfl, rfl, rfl, by decide +kernel, rfl, by decide +kernel, by decide +kernel⟩
theorem sc_law_lots : FnScope ["lists", "found", "some", "longer", "lot", "one"] ["lists"] (defScope s_law_lots) := ⟨rfl, rfl, rfl, by decide +kernel, rfl, by decide +kernel, by decide +kernel⟩
theorem sc_law_over : FnScope ["number", "degree", "found", "k"] ["number", "degree"] (defScope s_law_over) := ⟨rfl, rfl, rfl, by decide +kernel, rfl, by decide +kernel, by decide +kernel⟩
theorem sc_law_whole : FnScope ["box", "way", "number"] ["box"] (defScope s_law_whole) := ⟨rfl, rfl, rfl, by decide +kernel, rfl, by decide +kernel, by decide +kernel⟩
theorem sc_law_poly : FnScope ["box", "items", "most", "many", "lots", "degrees"] ["box", "items", "most", "many"] (defScope s_law_poly) := ⟨rfl, rfl, rfl, by decide +kernel, rfl, by decide +kernel, by decide +kernel⟩
theorem sc_law_value : FnScope ["polynomial", "items", "found", "degrees", "number", "item", "degree"] ["polynomial", "items"] (defScope s_law_value) := ⟨rfl, rfl, rfl, by decide +kernel, rfl, by decide +kernel, by decide +kernel⟩
theorem sc_law_is_poly : FnScope ["value", "items", "term", "one", "degree", "k"] ["value", "items"] (defScope s_law_is_poly) := ⟨rfl, rfl, rfl, by decide +kernel, rfl, by decide +kernel, by decide +kernel⟩
theorem sc_law_bent : FnScope ["box", "polynomial", "items", "whole", "at", "degrees", "number", "ahead", "behind", "found", "odd", "place"] ["box", "polynomial", "items"] (defScope s_law_bent) := ⟨rfl, rfl, rfl, by decide +kernel, rfl, by decide +kernel, by decide +kernel⟩
theorem sc_law_asked : FnScope ["which", "one", "two", "by_name", "told", "e"] ["which", "one", "two", "by_name"] (defScope s_law_asked) := ⟨rfl, rfl, rfl, by decide +kernel, rfl, by decide +kernel, by decide +kernel⟩
theorem sc_law_items : FnScope ["box", "items", "found", "k", "way"] ["box", "items"] (defScope s_law_items) := ⟨rfl, rfl, rfl, by decide +kernel, rfl, by decide +kernel, by decide +kernel⟩
theorem sc_law_poly_right : FnScope ["box", "items", "polynomial", "by_name", "many", "turn", "numbers", "due", "near", "given", "right", "told"] ["box", "items", "polynomial", "by_name"] (defScope s_law_poly_right) := ⟨rfl, rfl, rfl, by decide +kernel, rfl, by decide +kernel, by decide +kernel⟩
theorem sc_law_refused_right : FnScope ["box", "items", "polynomial", "by_name", "bad", "given", "told", "right", "some", "many"] ["box", "items", "polynomial", "by_name"] (defScope s_law_refused_right) := ⟨rfl, rfl, rfl, by decide +kernel, rfl, by decide +kernel, by decide +kernel⟩
theorem sc_law : FnScope ["script", "k", "box", "by_name", "items", "great", "polynomial"] ["script"] (defScope s_law) := ⟨rfl, rfl, rfl, by decide +kernel, rfl, by decide +kernel, by decide +kernel⟩
structure Tx (P : Program) (K : PySem.W.Frag) (mg : Str → Option Value) where
  a_is_whole : Addr
  f_is_whole : FuncData
  F_is_whole : Fun K "is_whole" "is_whole" s_is_whole a_is_whole f_is_whole
  D_is_whole : Defn K mg "is_whole" a_is_whole f_is_whole ["value"]
  a_is_between : Addr
  f_is_between : FuncData
  F_is_between : Fun K "is_between" "is_between" s_is_between a_is_between f_is_between
  D_is_between : Defn K mg "is_between" a_is_between f_is_between ["value", "least", "most"]
  a_is_line_of : Addr
  f_is_line_of : FuncData
  F_is_line_of : Fun K "is_line_of" "is_line_of" s_is_line_of a_is_line_of f_is_line_of
  D_is_line_of : Defn K mg "is_line_of" a_is_line_of f_is_line_of ["value", "width"]
  a_is_degrees : Addr
  f_is_degrees : FuncData
  F_is_degrees : Fun K "is_degrees" "is_degrees" s_is_degrees a_is_degrees f_is_degrees
  D_is_degrees : Defn K mg "is_degrees" a_is_degrees f_is_degrees ["value", "items"]
  a_is_polynomial_of : Addr
  f_is_polynomial_of : FuncData
  F_is_polynomial_of : Fun K "is_polynomial_of" "is_polynomial_of" s_is_polynomial_of a_is_polynomial_of f_is_polynomial_of
  D_is_polynomial_of : Defn K mg "is_polynomial_of" a_is_polynomial_of f_is_polynomial_of ["value", "items"]
  a_is_polynomial : Addr
  f_is_polynomial : FuncData
  F_is_polynomial : Fun K "is_polynomial" "is_polynomial" s_is_polynomial a_is_polynomial f_is_polynomial
  D_is_polynomial : Defn K mg "is_polynomial" a_is_polynomial f_is_polynomial ["value", "items"]
  a_check_items : Addr
  f_check_items : FuncData
  F_check_items : Fun K "check_items" "check_items" s_check_items a_check_items f_check_items
  D_check_items : Defn K mg "check_items" a_check_items f_check_items ["items"]
  a_check_polynomial : Addr
  f_check_polynomial : FuncData
  F_check_polynomial : Fun K "check_polynomial" "check_polynomial" s_check_polynomial a_check_polynomial f_check_polynomial
  D_check_polynomial : Defn K mg "check_polynomial" a_check_polynomial f_check_polynomial ["polynomial", "items"]
  a_binomial : Addr
  f_binomial : FuncData
  F_binomial : Fun K "binomial" "binomial" s_binomial a_binomial f_binomial
  D_binomial : Defn K mg "binomial" a_binomial f_binomial ["number", "degree"]
  a_weight_of : Addr
  f_weight_of : FuncData
  F_weight_of : Fun K "weight_of" "weight_of" s_weight_of a_weight_of f_weight_of
  D_weight_of : Defn K mg "weight_of" a_weight_of f_weight_of ["degrees", "items"]
  a_value_in : Addr
  f_value_in : FuncData
  F_value_in : Fun K "value_in" "value_in" s_value_in a_value_in f_value_in
  D_value_in : Defn K mg "value_in" a_value_in f_value_in ["polynomial", "items"]
  a_value_at : Addr
  f_value_at : FuncData
  F_value_at : Fun K "value_at" "value_at" s_value_at a_value_at f_value_at
  D_value_at : Defn K mg "value_at" a_value_at f_value_at ["polynomial", "items"]
  a_law_box : Addr
  f_law_box : FuncData
  F_law_box : Fun K "_law_box" "_law_box" s_law_box a_law_box f_law_box
  D_law_box : Defn K mg "_law_box" a_law_box f_law_box ["great"]
  a_law_take : Addr
  f_law_take : FuncData
  F_law_take : Fun K "_law_take" "_law_take" s_law_take a_law_take f_law_take
  D_law_take : Defn K mg "_law_take" a_law_take f_law_take ["box", "many"]
  a_law_cell : Addr
  f_law_cell : FuncData
  F_law_cell : Fun K "_law_cell" "_law_cell" s_law_cell a_law_cell f_law_cell
  D_law_cell : Defn K mg "_law_cell" a_law_cell f_law_cell ["script", "k"]
  a_law_same : Addr
  f_law_same : FuncData
  F_law_same : Fun K "_law_same" "_law_same" s_law_same a_law_same f_law_same
  D_law_same : Defn K mg "_law_same" a_law_same f_law_same ["told", "due"]
  a_law_copy : Addr
  f_law_copy : FuncData
  F_law_copy : Fun K "_law_copy" "_law_copy" s_law_copy a_law_copy f_law_copy
  D_law_copy : Defn K mg "_law_copy" a_law_copy f_law_copy ["value"]
  a_law_very : Addr
  f_law_very : FuncData
  F_law_very : Fun K "_law_very" "_law_very" s_law_very a_law_very f_law_very
  D_law_very : Defn K mg "_law_very" a_law_very f_law_very ["given", "value"]
  a_law_mixed : Addr
  f_law_mixed : FuncData
  F_law_mixed : Fun K "_law_mixed" "_law_mixed" s_law_mixed a_law_mixed f_law_mixed
  D_law_mixed : Defn K mg "_law_mixed" a_law_mixed f_law_mixed ["box", "items"]
  a_law_pick : Addr
  f_law_pick : FuncData
  F_law_pick : Fun K "_law_pick" "_law_pick" s_law_pick a_law_pick f_law_pick
  D_law_pick : Defn K mg "_law_pick" a_law_pick f_law_pick ["box", "items"]
  a_law_lots : Addr
  f_law_lots : FuncData
  F_law_lots : Fun K "_law_lots" "_law_lots" s_law_lots a_law_lots f_law_lots
  D_law_lots : Defn K mg "_law_lots" a_law_lots f_law_lots ["lists"]
  a_law_over : Addr
  f_law_over : FuncData
  F_law_over : Fun K "_law_over" "_law_over" s_law_over a_law_over f_law_over
  D_law_over : Defn K mg "_law_over" a_law_over f_law_over ["number", "degree"]
  a_law_whole : Addr
  f_law_whole : FuncData
  F_law_whole : Fun K "_law_whole" "_law_whole" s_law_whole a_law_whole f_law_whole
  D_law_whole : Defn K mg "_law_whole" a_law_whole f_law_whole ["box"]
  a_law_poly : Addr
  f_law_poly : FuncData
  F_law_poly : Fun K "_law_poly" "_law_poly" s_law_poly a_law_poly f_law_poly
  D_law_poly : Defn K mg "_law_poly" a_law_poly f_law_poly ["box", "items", "most", "many"]
  a_law_value : Addr
  f_law_value : FuncData
  F_law_value : Fun K "_law_value" "_law_value" s_law_value a_law_value f_law_value
  D_law_value : Defn K mg "_law_value" a_law_value f_law_value ["polynomial", "items"]
  a_law_is_poly : Addr
  f_law_is_poly : FuncData
  F_law_is_poly : Fun K "_law_is_poly" "_law_is_poly" s_law_is_poly a_law_is_poly f_law_is_poly
  D_law_is_poly : Defn K mg "_law_is_poly" a_law_is_poly f_law_is_poly ["value", "items"]
  a_law_bent : Addr
  f_law_bent : FuncData
  F_law_bent : Fun K "_law_bent" "_law_bent" s_law_bent a_law_bent f_law_bent
  D_law_bent : Defn K mg "_law_bent" a_law_bent f_law_bent ["box", "polynomial", "items"]
  a_law_asked : Addr
  f_law_asked : FuncData
  F_law_asked : Fun K "_law_asked" "_law_asked" s_law_asked a_law_asked f_law_asked
  D_law_asked : Defn K mg "_law_asked" a_law_asked f_law_asked ["which", "one", "two", "by_name"]
  a_law_items : Addr
  f_law_items : FuncData
  F_law_items : Fun K "_law_items" "_law_items" s_law_items a_law_items f_law_items
  D_law_items : Defn K mg "_law_items" a_law_items f_law_items ["box", "items"]
  a_law_poly_right : Addr
  f_law_poly_right : FuncData
  F_law_poly_right : Fun K "_law_poly_right" "_law_poly_right" s_law_poly_right a_law_poly_right f_law_poly_right
  D_law_poly_right : Defn K mg "_law_poly_right" a_law_poly_right f_law_poly_right ["box", "items", "polynomial", "by_name"]
  a_law_refused_right : Addr
  f_law_refused_right : FuncData
  F_law_refused_right : Fun K "_law_refused_right" "_law_refused_right" s_law_refused_right a_law_refused_right f_law_refused_right
  D_law_refused_right : Defn K mg "_law_refused_right" a_law_refused_right f_law_refused_right ["box", "items", "polynomial", "by_name"]
  a_law : Addr
  f_law : FuncData
  F_law : Fun K "law" "law" s_law a_law f_law
  D_law : Defn K mg "law" a_law f_law ["script"]
  B_is_polynomial : KB K f_is_polynomial ["value", "items"] ["items", "value"] List.reverse List.reverse
  B_value_at : KB K f_value_at ["polynomial", "items"] ["items", "polynomial"] List.reverse List.reverse
  aW : Addr
  fW : Addr
  base : PySem.WrX.BaseTxt P K mg aW fW
  a_InvalidCount : Addr
  c_InvalidCount : PySem.WrX.ClsTxt K mg "InvalidCount" aW fW a_InvalidCount
  x_InvalidCount : XfC K a_InvalidCount
  a_InvalidPolynomial : Addr
  c_InvalidPolynomial : PySem.WrX.ClsTxt K mg "InvalidPolynomial" aW fW a_InvalidPolynomial
  x_InvalidPolynomial : XfC K a_InvalidPolynomial
  a_InvalidItems : Addr
  c_InvalidItems : PySem.WrX.ClsTxt K mg "InvalidItems" aW fW a_InvalidItems
  x_InvalidItems : XfC K a_InvalidItems
  e_InvalidCount_InvalidCount : PySem.W.exmOne K (.ref a_InvalidCount) (.ref a_InvalidCount) = some true
  e_InvalidCount_InvalidPolynomial : PySem.W.exmOne K (.ref a_InvalidCount) (.ref a_InvalidPolynomial) = some false
  e_InvalidCount_InvalidItems : PySem.W.exmOne K (.ref a_InvalidCount) (.ref a_InvalidItems) = some false
  e_InvalidPolynomial_InvalidCount : PySem.W.exmOne K (.ref a_InvalidPolynomial) (.ref a_InvalidCount) = some false
  e_InvalidPolynomial_InvalidPolynomial : PySem.W.exmOne K (.ref a_InvalidPolynomial) (.ref a_InvalidPolynomial) = some true
  e_InvalidPolynomial_InvalidItems : PySem.W.exmOne K (.ref a_InvalidPolynomial) (.ref a_InvalidItems) = some false
  e_InvalidItems_InvalidCount : PySem.W.exmOne K (.ref a_InvalidItems) (.ref a_InvalidCount) = some false
  e_InvalidItems_InvalidPolynomial : PySem.W.exmOne K (.ref a_InvalidItems) (.ref a_InvalidPolynomial) = some false
  e_InvalidItems_InvalidItems : PySem.W.exmOne K (.ref a_InvalidItems) (.ref a_InvalidItems) = some true
  m_isinstance : mg "isinstance" = none
  m_int : mg "int" = none
  m_bool : mg "bool" = none
  m_str : mg "str" = none
  m_list : mg "list" = none
  m_tuple : mg "tuple" = none
  m_dict : mg "dict" = none
  m_len : mg "len" = none
  m_all : mg "all" = none
  m_sum : mg "sum" = none
  m_zip : mg "zip" = none
  m_range : mg "range" = none
  m_abs : mg "abs" = none
  m_max : mg "max" = none
  m_min : mg "min" = none
  m_sorted : mg "sorted" = none
  m_set : mg "set" = none
  m_comb : mg "comb" = some (.builtin "math.comb")
  g_MOST_ITEMS : ∃ tk, mg "MOST_ITEMS" = some (.int 2 tk)
  g_MOST_DEGREE : ∃ tk, mg "MOST_DEGREE" = some (.int 6 tk)
section
variable {P : Program} {w : World} {K : PySem.W.Frag} {mg : Str → Option Value} {base : Heap}
def sp_is_whole (K : PySem.W.Frag) : Sp := spT (fun _ : PyData => True) (fun d => [dt K d]) (fun d => dt K (.bool (isWholeD d)))
theorem ok_is_whole (T : Tx P K mg) : FnOk P w K mg base (L2.CX P w) 1 T.a_is_whole T.f_is_whole ["value"] (sp_is_whole K) := by
  have nd := sc_is_whole.nd
  refine fn_ty T.F_is_whole sc_is_whole (fun x _ => rfl) fun cdv Ar outer s H E hr => ⟨_, (pss_one (ps_ret (pe_and (k_isi (K := K) rfl T.m_isinstance (pa_cons (pv 0) (pa_cons (bt_int T.m_int) pa_nil))) (pe_one (pe_not (k_isi (K := K) rfl T.m_isinstance (pa_cons (pv 0) (pa_cons (bt_bool T.m_bool) pa_nil)))))))), fun W x hC => ?_⟩
  refine' TyS.never (tys_retW (Ty.is ?h ?k))
  case h => tm_at "ty"
  case k => cases x <;> rfl
end
section
variable {P : Program} {w : World} {K : PySem.W.Frag} {mg : Str → Option Value} {base : Heap}
def betD (d : PyData) (a b : Int) : Bool := match d with
  | .int n => decide (a ≤ n) && decide (n ≤ b)
  | _ => false
def sp_is_between (K : PySem.W.Frag) : Sp := spT (fun _ : PyData × Int × Int => True) (fun x => [dt K x.1, dt K (.int x.2.1), dt K (.int x.2.2)]) (fun x => dt K (.bool (betD x.1 x.2.1 x.2.2)))
theorem ok_is_between (T : Tx P K mg) : FnOk P w K mg base (L2.CX P w) 2 T.a_is_between T.f_is_between ["value", "least", "most"] (sp_is_between K) := by
  have G_is_whole := ok_is_whole (w := w) (base := base) T
  have nd := sc_is_between.nd
  refine fn_ty T.F_is_between sc_is_between (fun x _ => rfl) fun cdv Ar outer s H E hr => ⟨_, (pss_one (ps_ret (pe_and (pcall G_is_whole (hr.mono (by decide)) T.D_is_whole (pa_cons (pv 0) pa_nil)) (pe_one (pe_chain op_le op_le (pv 1) (pv 0) (pv 2)))))), fun W x hC => ?_⟩
  obtain ⟨d, a, b⟩ := x
  refine TyS.never (tys_retW ?_)
  cases d with
  | int n => exact Ty.is (ty_andV (a := true) (b := decide (a ≤ n) && decide (n ≤ b)) (Ty.is (ty_call (PyData.int n) trivial (by tm_at "tya")) rfl) fun _ => ty_chain (ty_var rfl) (ty_var rfl) opt_le (fun _ => ty_var rfl) opt_le) rfl
  | _ => exact ty_andF (Ty.is (ty_call _ trivial (by tm_at "tya")) rfl)
end
section
variable {P : Program} {w : World} {K : PySem.W.Frag} {mg : Str → Option Value} {base : Heap}
def isLineOfD (d : PyData) (n : Int) : Bool := match d with
  | .tuple ds => decide ((ds.length : Int) = n) && ds.all isWholeD
  | _ => false
def sp_is_line_of (K : PySem.W.Frag) : Sp := spT (fun x : PyData × Int => sizeD x.1 ≤ 1000) (fun x => [dt K x.1, dt K (.int x.2)]) (fun x => dt K (.bool (isLineOfD x.1 x.2)))
theorem ok_is_line_of (T : Tx P K mg) : FnOk P w K mg base (L2.CX P w) 2 T.a_is_line_of T.f_is_line_of ["value", "width"] (sp_is_line_of K) := by
  have G_is_whole := ok_is_whole (w := w) (base := base) T
  have nd := sc_is_line_of.nd
  refine fn_ty T.F_is_line_of sc_is_line_of (fun x _ => rfl) fun cdv Ar outer s H E hr => ⟨_, (pss_one (ps_ret (pe_and (k_isi (K := K) rfl T.m_isinstance (pa_cons (pv 0) (pa_cons (bt_tuple T.m_tuple) pa_nil))) (pe_and (pe_cmpR (k_eq (K := K) rfl hr.units) (k_len (K := K) rfl T.m_len (pa_cons (pv 0) pa_nil)) (pv 1) (nomark _)) (pe_one (k_all (K := K) rfl T.m_all (pa_cons (plc [("item", 2)] nd (k_itup (K := K) rfl (pv 0)) (fun _ _ _ _ _ => (pgn 2 nd)) (fun _ _ _ _ _ => pts_nil) (fun _ _ _ _ _ => (pcall G_is_whole (hr.mono (by decide)) T.D_is_whole (pa_cons (pv 2) pa_nil))) (by kernel_rfl)) pa_nil))))))), fun W x hC => ?_⟩
  obtain ⟨d, n⟩ := x
  refine TyS.never (tys_retW ?_)
  cases d with
  | tuple ds =>
    refine' (ty_andV ?h1 fun _ => ty_andV ?h2 fun _ => ty_allG (p := isWholeD) ?h3).is ?h4
    case h1 => tm_at "ty"
    case h2 => tm_at "ty"
    case h3 => exact tyl_map (dt K) (fun x => dt K (.bool (isWholeD x))) (tyi_tupD (by tm_at "ty")) (Nat.le_trans hC (by decide)) (by decide) fun W' x _ => ty_call x trivial (by tm_at "tya")
    case h4 => rfl
  | _ => exact Ty.is (ty_andF (by tm_at "tyis")) rfl
end
section
variable {P : Program} {w : World} {K : PySem.W.Frag} {mg : Str → Option Value} {base : Heap}
theorem bet6_is (d : PyData) : betD d 0 6 = bet6 d := by cases d <;> rfl
def sp_is_degrees (K : PySem.W.Frag) : Sp := spT (fun x : PyData × Nat => sizeD x.1 ≤ 1000) (fun x => [dt K x.1, dt K (.int (x.2 : Nat))]) (fun x => dt K (.bool (degB x.2 x.1)))
theorem ok_is_degrees (T : Tx P K mg) : FnOk P w K mg base (L2.CX P w) 3 T.a_is_degrees T.f_is_degrees ["value", "items"] (sp_is_degrees K) := by
  have G_is_between := ok_is_between (w := w) (base := base) T
  have nd := sc_is_degrees.nd
  refine fn_ty T.F_is_degrees sc_is_degrees (fun x _ => rfl) fun cdv Ar outer s H E hr => ⟨_, (pss_cons (ps_if (PW.pt (pw_or (pt_not (pt_val (k_isi (K := K) rfl T.m_isinstance (pa_cons (pv 0) (pa_cons (bt_tuple T.m_tuple) pa_nil))))) (pw_or1 (pt_cmpR (k_ne (K := K) rfl hr.units) (k_len (K := K) rfl T.m_len (pa_cons (pv 0) pa_nil)) (pv 1) (nomark _))))) (pss_one (ps_ret pe_bl)) pss_nil)
    (pss_one (ps_ret (k_all (K := K) rfl T.m_all (pa_cons (plc [("item", 2)] nd (k_itup (K := K) rfl (pv 0)) (fun _ _ _ _ _ => (pgn 2 nd)) (fun _ _ _ _ _ => pts_nil) (fun _ _ _ _ _ => (pcall G_is_between (hr.mono (by decide)) T.D_is_between (pa_cons (pv 2) (pa_cons pe_int (pa_cons (pglob T.g_MOST_DEGREE) pa_nil))))) (by kernel_rfl)) pa_nil))))), fun W x hC => ?_⟩
  obtain ⟨d, n⟩ := x
  cases d with
  | tuple ds =>
    refine tys_guard (φ := (· = !decide (ds.length = n))) (Tt.is (tt_orB (a := false) (b := !decide ((ds.length : Int) = (n : Nat))) (by tm_at "ttis") fun _ => tt_test (ty_op (ty_cb (tya_cons (ty_var rfl) tya_nil) cbt_lenT) (ty_var rfl) opt_neI)) (by rw [Bool.false_or, decide_eq_decide.mpr (show ((ds.length : Int) = (n : Nat)) ↔ ds.length = n by omega)])) (fun z => ?_) fun z => ?_
    · have e := of_decide_eq_false (bnot1' z)
      exact tys_retW (Ty.is ty_bl (by show PyData.bool false = .bool (decide (ds.length = n) && _); rw [decide_eq_false e]; rfl))
    · have e := of_decide_eq_true (bnot0' z)
      refine TyS.never (tys_retW (Ty.is (ty_allG (p := bet6) (tyl_map (dt K) (fun x => dt K (.bool (bet6 x))) (tyi_tupD (ty_var rfl)) (Nat.le_trans hC (by decide)) (by decide) fun W' y _ => Ty.is (ty_call (y, 0, 6) trivial (tya_cons (ty_var rfl) (tya_cons ty_int (tya_cons ty_int tya_nil)))) (by rw [← bet6_is]))) ?_))
      show PyData.bool (ds.all bet6) = .bool (decide (ds.length = n) && ds.all bet6)
      rw [decide_eq_true e]; rfl
  | _ => exact tys_guard (φ := (· = true)) (tt_orTr (by tm_at "ttis")) (fun _ => tys_retW (Ty.is ty_bl rfl)) fun z => Bool.noConfusion z
end
section
variable {P : Program} {w : World} {K : PySem.W.Frag} {mg : Str → Option Value} {base : Heap}
theorem poly_no {n : Nat} {ts : List PyData} {t : PyData} (ht : t ∈ ts) (h : termB n t = false) : polyB n (.tuple ts) = false := by
  cases e : polyB n (.tuple ts) with
  | false => rfl
  | true =>
    have e : (ts.all (termB n) && decide (asc (ts.map fun t => degsOf (fstD t)))) = true := e
    rw [Bool.and_eq_true] at e
    rw [List.all_eq_true.mp e.1 t ht] at h
    cases h
theorem take_more {α : Type} {p : α → Prop} {l : List α} {i : Nat} {x : α} (e : l[i]? = some x) (h : ∀ t ∈ l.take i, p t) (hx : p x) : ∀ t ∈ l.take (i + 1), p t := fun t ht => by
  rw [List.take_add_one, e] at ht
  rcases List.mem_append.mp ht with z | z
  · exact h t z
  · rw [List.mem_singleton.mp z]; exact hx
theorem map_get {α : Type} {f : α → Typ} {l : List α} {i : Nat} {T : Typ} (h : (l.map f)[i]? = some T) : ∃ x, l[i]? = some x ∧ T = f x := by
  rw [List.getElem?_map] at h
  cases e : l[i]? with
  | none => rw [e] at h; cases h
  | some x => rw [e] at h; exact ⟨x, rfl, (Option.some.inj h).symm⟩
def sp_is_polynomial_of (K : PySem.W.Frag) : Sp := spT (fun x : PyData × Nat => fine 6 x.1 ∧ x.2 ≤ 2) (fun x => [dt K x.1, dt K (.int (x.2 : Nat))]) (fun x => dt K (.bool (polyB x.2 x.1)))
theorem ok_is_polynomial_of (T : Tx P K mg) : FnOk P w K mg base (L2.CX P w) 4 T.a_is_polynomial_of T.f_is_polynomial_of ["value", "items"] (sp_is_polynomial_of K) := by
  have G_is_degrees := ok_is_degrees (w := w) (base := base) T
  have G_is_whole := ok_is_whole (w := w) (base := base) T
  have nd := sc_is_polynomial_of.nd
  refine fn_ty T.F_is_polynomial_of sc_is_polynomial_of (fun x _ => rfl) fun cdv Ar outer s H E hr => ⟨_, (pss_cons (ps_if (pt_not (pt_val (k_isi (K := K) rfl T.m_isinstance (pa_cons (pv 0) (pa_cons (bt_tuple T.m_tuple) pa_nil))))) (pss_one (ps_ret pe_bl)) pss_nil)
    (pss_cons (ps_for PassesOwn.never rfl (k_itup (K := K) rfl (pv 0)) (pgn 2 nd) (pss_cons (ps_if (PW.pt (pw_or (pt_not (pt_val (k_isi (K := K) rfl T.m_isinstance (pa_cons (pv 2) (pa_cons (bt_tuple T.m_tuple) pa_nil))))) (pw_or (pt_cmpR (k_ne (K := K) rfl hr.units) (k_len (K := K) rfl T.m_len (pa_cons (pv 2) pa_nil)) pe_int (nomark _)) (pw_or1 (pt_not (pt_val (pcall G_is_degrees (hr.mono (by decide)) T.D_is_degrees (pa_cons (pe_ix (k_ix (K := K) rfl) (pv 2) pe_int (fun _ _ => rfl)) (pa_cons (pv 1) pa_nil))))))))) (pss_one (ps_ret pe_bl)) pss_nil)
    (pss_one (ps_if (PW.pt (pw_or (pt_not (pt_val (pcall G_is_whole (hr.mono (by decide)) T.D_is_whole (pa_cons (pe_ix (k_ix (K := K) rfl) (pv 2) pe_int (fun _ _ => rfl)) pa_nil)))) (pw_or1 (pt_cmpR (k_eq (K := K) rfl hr.units) (pe_ix (k_ix (K := K) rfl) (pv 2) pe_int (fun _ _ => rfl)) pe_int (nomark _))))) (pss_one (ps_ret pe_bl)) pss_nil))))
    (pss_cons (psetLc 3 [("term", 2)] nd (k_itup (K := K) rfl (pv 0)) (fun _ _ _ _ _ => (pgn 2 nd)) (fun _ _ _ _ _ => pts_nil) (fun _ _ _ _ _ => (pe_ix (k_ix (K := K) rfl) (pv 2) pe_int (fun _ _ => rfl))) (by kernel_rfl) (sw_true rfl rfl rfl (by kernel_rfl)))
    (pss_one (ps_ret (pe_cmpR (k_eq (K := K) rfl hr.units) (pv 3) (k_sortST (K := K) (P := P) (w := w) rfl rfl rfl T.m_sorted (pa_cons (k_set (K := K) (P := P) (w := w) rfl rfl rfl hr.units T.m_set (pa_cons (pv 3) pa_nil)) pa_nil)) (nomark _))))))), fun W x hC => ?_⟩
  obtain ⟨d, n⟩ := x
  obtain ⟨hf, hn⟩ : fine 6 d ∧ n ≤ 2 := hC
  cases d with
  | tuple ts =>
    obtain ⟨hl, ht⟩ : ts.length < 60 ∧ ∀ e ∈ ts, fine 5 e := hf
    refine tys_guard (φ := (· = false)) (by tm_at "ttis") (fun z => Bool.noConfusion z) fun _ => ?_
    refine tys_seqG (φ := ∀ t ∈ ts, termB n t = true) (tys_forP (fun i (_ : Unit) => ∀ t ∈ ts.take i, termB n t = true) (fun _ _ => W) (fun _ _ => [some (dt K (.tuple ts)), some (dt K (.int (n : Nat))), none, none]) () (fun t z => by cases z) (tyi_tupD (ty_var rfl)) (fun _ _ => Wd.Like.refl W) (fun σ H g => g) (fun i T' _ hT hp => ?_) fun _ σ H hp g => ⟨fun t z => hp t (by rw [List.length_map, List.take_length]; exact z), g⟩) fun hall => ?_
    · obtain ⟨t, e, rfl⟩ := map_get hT
      have hm := List.mem_of_getElem? e
      have no : termB n t = false → TyS W [some (dt K (.tuple ts)), some (dt K (.int (n : Nat))), some (dt K t), none] (tRet (tC (.bl false))) noN (rW W (dt K (.bool (polyB n (.tuple ts))))) (fun σ H => (∀ t ∈ ts, termB n t = true) ∧ nE W [some (dt K (.tuple ts)), some (dt K (.int (n : Nat))), none, none] σ H) (fun σ H => ∃ y : Unit, (∀ t ∈ ts.take (i + 1), termB n t = true) ∧ nE W [some (dt K (.tuple ts)), some (dt K (.int (n : Nat))), none, none] σ H) := fun z => tys_retW (Ty.is ty_bl (by rw [poly_no hm z]))
      have hft := ht t hm
      refine ⟨_, tyg_name 2, ?_⟩
      show TyS W [some (dt K (.tuple ts)), some (dt K (.int (n : Nat))), some (dt K t), none] _ _ _ _ _
      cases t with
      | tuple us =>
        by_cases h2 : us.length = 2
        · obtain ⟨a, b, rfl⟩ : ∃ a b, us = [a, b] := by
            match us, h2 with
            | [a, b], _ => exact ⟨a, b, rfl⟩
          refine tys_guard (φ := (· = !degB n a)) (Tt.is (tt_orB (a := false) (by tm_at "ttis") fun _ => tt_orB (a := false) (Tt.is (tt_test (ty_op (ty_cb (tya_cons (ty_var rfl) tya_nil) cbt_lenT) ty_int opt_neI)) rfl) fun _ => tt_notB (tt_B (ty_call (a, n) (fine_size (hft.2 a (.head _))) (tya_cons (ty_op (ty_var rfl) ty_int opt_ix0) (tya_cons (ty_var rfl) tya_nil))))) (by simp)) (fun z => no (by show (degB n a && nzB b) = false; rw [bnot1' z]; rfl)) fun z => ?_
          have hd := bnot0' z
          have ib : Ty W [some (dt K (.tuple ts)), some (dt K (.int (n : Nat))), some (dt K (.tuple [a, b])), none] (tOp (rIx K) (tVar 2) (tC (.int 1))) (dt K b) := ty_op (ty_var rfl) ty_int (opt_ixT (i := 1) (atI_nat (j := 1) rfl))
          cases b with
          | int c =>
            refine tys_if (φ := (· = decide (c = 0))) (Tt.is (tt_orB (a := false) (Tt.is (tt_notB (tt_B (ty_call (.int c) trivial (tya_cons ib tya_nil)))) rfl) fun _ => tt_test (ty_op ib ty_int opt_eqI)) (by simp)) (fun z => TyS.never (no (by show (degB n a && !decide (c = 0)) = false; rw [← z, Bool.not_true, Bool.and_false]))) fun z => tys_next.imp fun σ H g => ⟨(), take_more e hp (by show (degB n a && !decide (c = 0)) = true; rw [hd, ← z]; rfl), g.1, EnvL.less (by exact ⟨fun _ _ _ _ h => h, fun _ _ _ _ h => h, trivial⟩) g.2⟩
          | _ => exact tys_if (φ := (· = true)) (tt_orTr (Tt.is (tt_notB (tt_B (ty_call _ trivial (tya_cons ib tya_nil)))) rfl)) (fun _ => TyS.never (no (by show (degB n a && false) = false; rw [Bool.and_false]))) fun z => Bool.noConfusion z
        · exact tys_guard (φ := (· = true)) (Tt.is (tt_orB (a := false) (b := true) (by tm_at "ttis") fun _ => tt_orTr (Tt.is (tt_test (ty_op (ty_cb (tya_cons (ty_var rfl) tya_nil) cbt_lenT) ty_int opt_neI)) (by rw [decide_eq_false (show ¬ ((us.length : Int) = 2) by omega)]; rfl))) rfl) (fun _ => no (by
            unfold termB
            split
            · rename_i q
              injection q with q
              rw [q] at h2
              exact absurd rfl h2
            · rfl)) fun z => Bool.noConfusion z
      | _ => exact tys_guard (φ := (· = true)) (tt_orTr (by tm_at "ttis")) (fun _ => no rfl) fun z => Bool.noConfusion z
    · obtain ⟨l, rfl, hok⟩ := terms_of hall
      rw [List.length_map] at hl
      have dg : Ty W [some (dt K (.tuple (l.map termD))), some (dt K (.int (n : Nat))), none, none] (tLc (iTup K (tVar 0)) (gName 2) tYes (tOp (rIx K) (tVar 2) (tC (.int 0))) [2]) (dt K (tupsL (l.map (·.1)))) := Ty.is (ty_lstG (f := fun t : Term => intsD t.1) (tyl_map (fun t : Term => dt K (termD t)) (fun t : Term => dt K (intsD t.1)) (tyi_tupA (f := termD) (ty_var rfl)) (by omega) (by decide) fun W' t _ => ty_op (ty_var rfl) ty_int (opt_ix0 (d := intsD t.1) (ds := [.int t.2])))) (by unfold tupsL; rw [List.map_map]; rfl)
      refine tys_seqE (tys_set dg) ?_
      show TyS W [some (dt K (.tuple (l.map termD))), some (dt K (.int (n : Nat))), none, some (dt K (tupsL (l.map (·.1))))] _ _ _ _ _
      refine TyS.never (tys_retW (Ty.is (ty_op (ty_var rfl) (ty_sortST (d := n) (fun x hx => ?_) (by rw [List.length_map]; omega) (ty_var rfl)) (P := dt K (.bool (decide (asc (l.map (·.1)))))) (opt_exR fun ls => OpT.gdr fun hls => ?_)) ?_))
      · obtain ⟨t, h1, rfl⟩ := List.mem_map.mp hx
        exact ⟨(hok t h1).len, (hok t h1).bd⟩
      · have z := opt_eqD (W := W) (K := K) (shaped_tups (l.map (·.1))) (shaped_tups ls)
        rw [eqv_tups] at z
        have e : decide (l.map (·.1) = ls) = decide (asc (l.map (·.1))) := decide_eq_decide.mpr ⟨fun q => by rw [q]; exact hls.1, fun q => asc_ext q hls.1 fun x => (hls.2 x).symm⟩
        rw [e] at z
        exact z
      · show _ = PyData.bool ((l.map termD).all (termB n) && decide (asc ((l.map termD).map fun t => degsOf (fstD t))))
        rw [degs_terms, List.all_eq_true.mpr hall, Bool.true_and]
  | _ => exact tys_guard (φ := (· = true)) (by tm_at "ttis") (fun _ => tys_retW (Ty.is ty_bl rfl)) fun z => Bool.noConfusion z
end
section
variable {P : Program} {w : World} {K : PySem.W.Frag} {mg : Str → Option Value} {base : Heap}
/-- how many items: 0 to 2 -/
def cntB (d : PyData) : Bool := betD d 0 2
def badC {P : Program} {K : PySem.W.Frag} {mg : Str → Option Value} (T : Tx P K mg) (u : V) (d : PyData) : Option Bad := if cntB d = true then none else some ⟨T.a_InvalidCount, flG, isV u⟩
theorem badC_none {P : Program} {K : PySem.W.Frag} {mg : Str → Option Value} {T : Tx P K mg} {u : V} {d : PyData} (h : badC T u d = none) : cntB d = true := by
  unfold badC at h
  split at h
  · assumption
  · cases h
theorem cnt_of {d : PyData} (h : cntB d = true) : ∃ n : Nat, d = .int (n : Nat) ∧ n ≤ 2 := by
  cases d with
  | int i =>
    have h : (decide (0 ≤ i) && decide (i ≤ 2)) = true := h
    rw [Bool.and_eq_true] at h
    have a1 := of_decide_eq_true h.1
    have a2 := of_decide_eq_true h.2
    exact ⟨i.toNat, by rw [Int.toNat_of_nonneg a1], by omega⟩
  | _ => cases h
def sp_check_items (T : Tx P K mg) : Sp := spX (fun _ : V × PyData => True) (fun x => [nmT K x.1 x.2]) (fun _ => rT (dt K .none)) (fun x => badC T x.1 x.2)
theorem ok_check_items (T : Tx P K mg) : FnOk P w K mg base (L2.CX P w) 6 T.a_check_items T.f_check_items ["items"] (sp_check_items T) := by
  have G_is_between := ok_is_between (w := w) (base := base) T
  have nd := sc_check_items.nd
  refine fn_tyX T.F_check_items sc_check_items (fun x _ => rfl) fun cdv Ar outer s H E hr => ⟨_, (pss_one (ps_if (pt_not (pt_val (pcall G_is_between (hr.mono (by decide)) T.D_is_between (pa_cons (pv 0) (pa_cons pe_int (pa_cons (pglob T.g_MOST_ITEMS) pa_nil)))))) (pss_one (ps_raiseW rfl T.base T.c_InvalidCount hr (takes_of rfl rfl rfl rfl) (pa_cons (pv 0) pa_nil))) pss_nil)), fun W x hC he => ?_⟩
  obtain ⟨u, d⟩ := x
  refine tys_guard (φ := (· = !cntB d)) (tt_notB (tt_B (ty_call (d, 0, 2) trivial (tya_cons (ty_nmD rfl) (tya_cons ty_int (tya_cons ty_int tya_nil)))))) (fun z => ?_) fun z => ?_
  · have e : cntB d = false := bnot1' z
    exact tys_raiseG (T := isV u) (ty_nmV rfl) (he _ _ (by unfold badC; rw [if_neg (by rw [e]; exact Bool.false_ne_true)]))
  · have e : cntB d = true := bnot0' z
    exact tys_next.imp fun σ H n => ⟨by unfold badC; rw [if_pos e], n.1.ex, .non⟩
end
section
variable {P : Program} {w : World} {K : PySem.W.Frag} {mg : Str → Option Value} {base : Heap}
def badP {P : Program} {K : PySem.W.Frag} {mg : Str → Option Value} (T : Tx P K mg) (u : V) (d : PyData) (n : Nat) : Option Bad := if polyB n d = true then none else some ⟨T.a_InvalidPolynomial, flG, isV u⟩
theorem badP_none {P : Program} {K : PySem.W.Frag} {mg : Str → Option Value} {T : Tx P K mg} {u : V} {d : PyData} {n : Nat} (h : badP T u d n = none) : polyB n d = true := by
  unfold badP at h
  split at h
  · assumption
  · cases h
def sp_check_polynomial (T : Tx P K mg) : Sp := spX (fun x : V × PyData × Nat => fine 6 x.2.1 ∧ x.2.2 ≤ 2) (fun x => [nmT K x.1 x.2.1, dt K (.int (x.2.2 : Nat))]) (fun _ => rT (dt K .none)) (fun x => badP T x.1 x.2.1 x.2.2)
theorem ok_check_polynomial (T : Tx P K mg) : FnOk P w K mg base (L2.CX P w) 6 T.a_check_polynomial T.f_check_polynomial ["polynomial", "items"] (sp_check_polynomial T) := by
  have G_is_polynomial_of := ok_is_polynomial_of (w := w) (base := base) T
  have nd := sc_check_polynomial.nd
  refine fn_tyX T.F_check_polynomial sc_check_polynomial (fun x _ => rfl) fun cdv Ar outer s H E hr => ⟨_, (pss_one (ps_if (pt_not (pt_val (pcall G_is_polynomial_of (hr.mono (by decide)) T.D_is_polynomial_of (pa_cons (pv 0) (pa_cons (pv 1) pa_nil))))) (pss_one (ps_raiseW rfl T.base T.c_InvalidPolynomial hr (takes_of rfl rfl rfl rfl) (pa_cons (pv 0) pa_nil))) pss_nil)), fun W x hC he => ?_⟩
  obtain ⟨u, d, n⟩ := x
  refine tys_guard (φ := (· = !polyB n d)) (tt_notB (tt_B (ty_call (d, n) hC (tya_cons (ty_nmD rfl) (tya_cons (ty_var rfl) tya_nil))))) (fun z => ?_) fun z => ?_
  · have e : polyB n d = false := bnot1' z
    exact tys_raiseG (T := isV u) (ty_nmV rfl) (he _ _ (by unfold badP; rw [if_neg (by rw [e]; exact Bool.false_ne_true)]))
  · have e : polyB n d = true := bnot0' z
    exact tys_next.imp fun σ H n => ⟨by unfold badP; rw [if_pos e], n.1.ex, .non⟩
end
section
variable {P : Program} {w : World} {K : PySem.W.Frag} {mg : Str → Option Value} {base : Heap}
def cntN : PyData → Nat
  | .int i => i.toNat
  | _ => 0
def sp_is_polynomial (T : Tx P K mg) : Sp := spX (fun x : V × PyData × V × PyData => fine 6 x.2.1) (fun x => [nmT K x.1 x.2.1, nmT K x.2.2.1 x.2.2.2]) (fun x => rT (dt K (.bool (polyB (cntN x.2.2.2) x.2.1)))) (fun x => badC T x.2.2.1 x.2.2.2)
theorem ok_is_polynomial (T : Tx P K mg) : FnOk P w K mg base (L2.CX P w) 7 T.a_is_polynomial T.f_is_polynomial ["value", "items"] (sp_is_polynomial T) := by
  have G_check_items := ok_check_items (w := w) (base := base) T
  have G_is_polynomial_of := ok_is_polynomial_of (w := w) (base := base) T
  have nd := sc_is_polynomial.nd
  refine fn_tyX T.F_is_polynomial sc_is_polynomial (fun x _ => rfl) fun cdv Ar outer s H E hr => ⟨_, (pss_cons (ps_expr (pe_callS G_check_items (hr.mono (by decide)) rfl T.D_check_items.g T.D_check_items.k T.D_check_items.b (fun σ => passAt (takes_of rfl rfl rfl rfl) σ) (pa_cons (pv 1) pa_nil)))
    (pss_one (ps_ret (pcall G_is_polynomial_of (hr.mono (by decide)) T.D_is_polynomial_of (pa_cons (pv 0) (pa_cons (pv 1) pa_nil)))))), fun W x hC he => ?_⟩
  obtain ⟨u, d, v, e⟩ := x
  have hf : fine 6 d := hC
  refine tys_seqG (φ := cntB e = true) (tys_dropR (tyr_callX (v, e) trivial (tya_cons (ty_var rfl) tya_nil) fun b h => he _ _ h) fun _ _ _ z => badC_none z.1) fun hc => ?_
  obtain ⟨n, rfl, hn⟩ := cnt_of hc
  exact TyS.never (tys_retX (R := rT (dt K (.bool (polyB (cntN (.int (n : Nat))) d)))) (by unfold badC; rw [if_pos hc]) (ty_call (d, n) ⟨hf, hn⟩ (tya_cons (ty_nmD rfl) (tya_cons (ty_nmD rfl) tya_nil))).tyr)
end
section
variable {P : Program} {w : World} {K : PySem.W.Frag} {mg : Str → Option Value} {base : Heap}
def sp_binomial (K : PySem.W.Frag) : Sp := spT (fun x : Int × Nat => bd 200 x.1 ∧ x.2 ≤ 6) (fun x => [dt K (.int x.1), dt K (.int (x.2 : Nat))]) (fun x => dt K (.int (chI x.1 x.2)))
theorem ok_binomial (T : Tx P K mg) : FnOk P w K mg base (L2.CX P w) 1 T.a_binomial T.f_binomial ["number", "degree"] (sp_binomial K) := by
  have nd := sc_binomial.nd
  refine fn_ty T.F_binomial sc_binomial (fun x _ => rfl) fun cdv Ar outer s H E hr => ⟨_, (pss_cons (ps_if (pt_cmpR op_ge (pv 0) pe_int (nomark _)) (pss_one (ps_ret (k_comb T.m_comb (pa_cons (pv 0) (pa_cons (pv 1) pa_nil))))) pss_nil)
    (pss_cons (pset 2 nd (k_comb T.m_comb (pa_cons (pe_op op_sub (pe_op op_sub (pv 1) (pv 0)) pe_int) (pa_cons (pv 1) pa_nil))))
    (pss_one (ps_ret (pe_ifExp (pt_cmpR (k_eq (K := K) rfl hr.units) (pe_op op_mod (pv 1) pe_int) pe_int (nomark _)) (pv 2) (pe_un un_neg (pv 2))))))), fun W x hC => ?_⟩
  obtain ⟨n, k⟩ := x
  obtain ⟨h1, h2⟩ : bd 200 n ∧ k ≤ 6 := hC
  have h1' : n.natAbs < 2 ^ 200 := h1
  have big : (2 : Nat) ^ 200 + 100 ≤ 2 ^ 4096 := Nat.le_trans pow_201 (Nat.pow_le_pow_right (by decide) (by decide))
  refine tys_guard (φ := (· = decide (0 ≤ n))) (tt_test (ty_op (ty_var rfl) ty_int opt_ge)) (fun z => ?_) fun z => ?_
  · have h0 := of_decide_eq_true z.symm
    obtain ⟨m, rfl⟩ : ∃ m : Nat, n = m := ⟨n.toNat, by omega⟩
    exact tys_retW (Ty.is (ty_cb (tya_cons (ty_var rfl) (tya_cons (ty_var rfl) tya_nil)) (cbt_comb (by omega) (by omega))) (by unfold chI; rw [if_pos h0]; rfl))
  · have h0 := of_decide_eq_false z.symm
    obtain ⟨m, hm⟩ : ∃ m : Nat, (k : Int) - n - 1 = m := ⟨((k : Int) - n - 1).toNat, by omega⟩
    have em : ((k : Int) - n - 1).toNat = m := by omega
    refine tys_seqE (tys_set (ty_cb (tya_cons (Ty.is (ty_op (ty_op (ty_var rfl) (ty_var rfl) opt_sub) ty_int opt_sub) (by rw [hm])) (tya_cons (ty_var rfl) tya_nil)) (cbt_comb (n := m) (k := k) (by omega) (by omega)))) ?_
    show TyS W [some (dt K (.int n)), some (dt K (.int (k : Nat))), some (dt K (.int (chN m k : Nat)))] _ _ _ _ _
    refine TyS.never (tys_retW (ty_if (φ := (· = decide ((k : Int) % 2 = 0))) (tt_test (ty_op (ty_op (ty_var rfl) ty_int (opt_mod (by decide))) ty_int opt_eqI)) (fun z => ?_) fun z => ?_))
    · have hk := of_decide_eq_true z.symm
      exact Ty.is (ty_var rfl) (by show _ = PyData.int (chI n k); unfold chI; rw [if_neg h0, if_pos (show k % 2 = 0 by omega), em])
    · have hk := of_decide_eq_false z.symm
      exact Ty.is (ty_un (ty_var rfl) unt_neg) (by show _ = PyData.int (chI n k); unfold chI; rw [if_neg h0, if_neg (show ¬ k % 2 = 0 by omega), em])
end
section
variable {P : Program} {w : World} {K : PySem.W.Frag} {mg : Str → Option Value} {base : Heap}
theorem wgt_bd {ns ds : List Int} (hn : ∀ n ∈ ns, bd 200 n) (hd : TS.Bd 7 ds) : ∀ i, i ≤ 2 → bd (2 + 1300 * i) (((ns.zip ds).take i).foldl (fun f p => f * chI p.1 p.2.toNat) 1) := by
  intro i
  induction i with
  | zero => intro _; show (1 : Int).natAbs < 2 ^ 2; decide
  | succ i ih =>
    intro hi
    have h := ih (by omega)
    rw [List.take_add_one, List.foldl_append]
    cases e : (ns.zip ds)[i]? with
    | none => exact h.mono (by omega)
    | some p =>
      have hm := List.mem_of_getElem? e
      have z := hd p.2 (List.of_mem_zip hm).2
      have q := h.mul (chI_bd (hn p.1 (List.of_mem_zip hm).1) (show p.2.toNat ≤ 6 by omega))
      exact q.mono (by omega)
theorem wgt_all {ns ds : List Int} (h : ns.length ≤ 2) : wgt ns ds = ((ns.zip ds).take 2).foldl (fun f p => f * chI p.1 p.2.toNat) 1 := by
  rw [List.take_of_length_le (by rw [List.length_zip]; omega)]; rfl
structure WgtC (ns ds : List Int) : Prop where
  n : ∀ n ∈ ns, bd 200 n
  d : TS.Bd 7 ds
  l : ns.length ≤ 2
theorem WgtC.bd {ns ds : List Int} (h : WgtC ns ds) : bd 2602 (wgt ns ds) := by
  rw [wgt_all h.l]
  exact wgt_bd h.n h.d 2 (by omega)
def sp_weight_of (K : PySem.W.Frag) : Sp := spT (fun x : List Int × List Int => WgtC x.2 x.1) (fun x => [dt K (intsD x.1), dt K (intsD x.2)]) (fun x => dt K (.int (wgt x.2 x.1)))
theorem ok_weight_of (T : Tx P K mg) : FnOk P w K mg base (L2.CX P w) 2 T.a_weight_of T.f_weight_of ["degrees", "items"] (sp_weight_of K) := by
  have G_binomial := ok_binomial (w := w) (base := base) T
  have nd := sc_weight_of.nd
  refine fn_ty T.F_weight_of sc_weight_of (fun x _ => rfl) fun cdv Ar outer s H E hr => ⟨_, (pss_cons (pset 2 nd pe_int)
    (pss_cons (ps_for PassesOwn.never rfl (k_izip (K := K) rfl T.m_zip (pa_cons (pv 1) (pa_cons (pv 0) pa_nil))) (k_gtup (K := K) (n := 2) rfl (pgs_cons (pgn 3 nd) (pgs_cons (pgn 4 nd) pgs_nil))) (pss_one (pset 2 nd (pe_op op_mulA (pv 2) (pcall G_binomial (hr.mono (by decide)) T.D_binomial (pa_cons (pv 3) (pa_cons (pv 4) pa_nil)))))))
    (pss_one (ps_ret (pv 2))))), fun W x hC => ?_⟩
  obtain ⟨ds, ns⟩ := x
  have h : WgtC ns ds := hC
  show TyS W [some (dt K (intsD ds)), some (dt K (intsD ns)), none, none, none] _ _ _ _ _
  refine tys_seqE (tys_set (ty_int (K := K))) ?_
  show TyS W [some (dt K (intsD ds)), some (dt K (intsD ns)), some (dt K (.int 1)), none, none] _ _ _ _ _
  refine tys_seqE (W' := W) (Γ' := [some (dt K (intsD ds)), some (dt K (intsD ns)), some (dt K (.int (wgt ns ds))), none, none]) (tys_for (fun _ _ => W) (fun i (_ : Unit) => [some (dt K (intsD ds)), some (dt K (intsD ns)), some (dt K (.int (((ns.zip ds).take i).foldl (fun f p => f * chI p.1 p.2.toNat) 1))), none, none]) () (tyi_zipA (f := .int) (h := .int) (ty_var (T := dt K (intsD ns)) rfl) (ty_var (T := dt K (intsD ds)) rfl)) (fun _ _ => Wd.Like.refl W) (fun σ H g => g) (fun i T' _ hT => ?_) fun _ σ H g => by
      rw [List.length_map, List.take_length] at g
      exact g) (TyS.never (tys_retW (ty_var rfl)))
  obtain ⟨p, e, rfl⟩ := map_get hT
  have hm := List.mem_of_getElem? e
  have hp := h.d p.2 (List.of_mem_zip hm).2
  have hl : i < 2 := by
    have z := (List.getElem?_eq_some_iff.mp e).1
    rw [List.length_zip] at z
    have := h.l
    omega
  have hb := h.n p.1 (List.of_mem_zip hm).1
  have hk : p.2.toNat ≤ 6 := by omega
  refine ⟨_, tyg_pair (i := 3) (k := 4), ?_⟩
  show TyS W [some (dt K (intsD ds)), some (dt K (intsD ns)), some (dt K (.int (((ns.zip ds).take i).foldl (fun f p => f * chI p.1 p.2.toNat) 1))), some (dt K (.int p.1)), some (dt K (.int p.2))] _ _ _ _ _
  refine (tys_set (i := 2) (Ty.is (e := .int (((ns.zip ds).take (i + 1)).foldl (fun f p => f * chI p.1 p.2.toNat) 1)) (ty_op (ty_var rfl) (ty_call (p.1, p.2.toNat) ⟨hb, hk⟩ (tya_cons (ty_var rfl) (tya_cons (Ty.is (ty_var rfl) (by rw [Int.toNat_of_nonneg hp.1])) tya_nil))) (opt_mulW (bd.mul_ok (wgt_bd h.n h.d i (by omega)) (chI_bd hb hk) (by omega)))) ?_)).imp fun σ H g => ⟨(), g.1, EnvL.less (by exact ⟨fun _ _ _ _ h => h, fun _ _ _ _ h => h, fun _ _ _ _ h => h, trivial⟩) g.2⟩
  rw [List.take_add_one, e, List.foldl_append]; rfl
end
section
variable {P : Program} {w : World} {K : PySem.W.Frag} {mg : Str → Option Value} {base : Heap}
structure ValC (l : List Term) (ns : List Int) : Prop where
  hn : ∀ n ∈ ns, bd 200 n
  hl : ns.length ≤ 2
  ht : ∀ t ∈ l, TS.Bd 7 t.1 ∧ bd 200 t.2
  hm : l.length ≤ 1000
theorem ValC.wg {l : List Term} {ns : List Int} (h : ValC l ns) {t : Term} (ht : t ∈ l) : WgtC ns t.1 := ⟨h.hn, (h.ht t ht).1, h.hl⟩
def sp_value_in (K : PySem.W.Frag) : Sp := spT (fun x : List Term × List Int => ValC x.1 x.2) (fun x => [dt K (polD x.1), dt K (intsD x.2)]) (fun x => dt K (.int (valI x.1 x.2)))
theorem ok_value_in (T : Tx P K mg) : FnOk P w K mg base (L2.CX P w) 3 T.a_value_in T.f_value_in ["polynomial", "items"] (sp_value_in K) := by
  have G_weight_of := ok_weight_of (w := w) (base := base) T
  have nd := sc_value_in.nd
  refine fn_ty T.F_value_in sc_value_in (fun x _ => rfl) fun cdv Ar outer s H E hr => ⟨_, (pss_one (ps_ret (k_sum (K := K) rfl T.m_sum (pa_cons (plc [("degrees", 2), ("number", 3)] nd (k_itup (K := K) rfl (pv 0)) (fun _ _ _ _ _ => (k_gtup (K := K) (n := 2) rfl (pgs_cons (pgn 2 nd) (pgs_cons (pgn 3 nd) pgs_nil)))) (fun _ _ _ _ _ => pts_nil) (fun _ _ _ _ _ => (pe_op op_mulA (pv 3) (pcall G_weight_of (hr.mono (by decide)) T.D_weight_of (pa_cons (pv 2) (pa_cons (pv 1) pa_nil))))) (by kernel_rfl)) pa_nil)))), fun W x hC => ?_⟩
  obtain ⟨l, ns⟩ := x
  have h : ValC l ns := hC
  refine TyS.never (tys_retW (ty_sumG (xs := l) (f := fun t : Term => t.2 * wgt ns t.1) (tyl_mapT (fun t : Term => dt K (termD t)) (fun t : Term => dt K (.int (t.2 * wgt ns t.1))) (tyi_tupA (f := termD) (ty_var rfl)) (Nat.le_trans h.hm (by decide)) (gok_pair (by decide) (by decide)) fun W' t ht => ⟨_, TyG.sub tyg_pair fun v H z => data_tupT (ds := [intsD t.1, .int t.2]) z, ?_⟩)))
  show Ty W' [some (dt K (polD l)), some (dt K (intsD ns)), some (dt K (intsD t.1)), some (dt K (.int t.2))] _ _
  exact ty_op (ty_var rfl) (ty_call (t.1, ns) (h.wg ht) (tya_cons (ty_var rfl) (tya_cons (ty_var rfl) tya_nil))) (opt_mulW (bd.mul_ok (h.ht t ht).2 (h.wg ht).bd (by omega)))
end
section
variable {P : Program} {w : World} {K : PySem.W.Frag} {mg : Str → Option Value} {base : Heap}
/-- 0 to 2 ints -/
def itmB : PyData → Bool
  | .tuple ds => decide (ds.length ≤ 2) && ds.all isWholeD
  | _ => false
def badI {P : Program} {K : PySem.W.Frag} {mg : Str → Option Value} (T : Tx P K mg) (u v : V) (d e : PyData) : Option Bad := if itmB e = true then badP T u d (sizeD e) else some ⟨T.a_InvalidItems, flG, isV v⟩
theorem whole_ints : ∀ {ds : List PyData}, ds.all isWholeD = true → ∃ ns : List Int, ds = ns.map .int
  | [], _ => ⟨[], rfl⟩
  | d :: ds, h => by
    rw [List.all_cons, Bool.and_eq_true] at h
    obtain ⟨ns, rfl⟩ := whole_ints h.2
    cases d with
    | int i => exact ⟨i :: ns, rfl⟩
    | _ => exact absurd h.1 (by simp [isWholeD])
theorem itm_of {e : PyData} (h : itmB e = true) : ∃ ns, e = intsD ns ∧ ns.length ≤ 2 := by
  cases e with
  | tuple ds =>
    have h : (decide (ds.length ≤ 2) && ds.all isWholeD) = true := h
    rw [Bool.and_eq_true] at h
    obtain ⟨ns, rfl⟩ := whole_ints h.2
    exact ⟨ns, rfl, by simpa using of_decide_eq_true h.1⟩
  | _ => cases h
theorem fine_int {n : Nat} {i : Int} (h : fine n (.int i)) : bd 200 i := by
  cases n with
  | zero => exact h.elim
  | succ n => exact h
theorem fine_ints {n : Nat} {ns : List Int} (h : fine n (intsD ns)) : ∀ i ∈ ns, bd 200 i := by
  cases n with
  | zero => exact h.elim
  | succ n => exact fun i hi => fine_int (h.2 (.int i) (List.mem_map.mpr ⟨i, hi, rfl⟩))
theorem pol_valC {l : List Term} {ns : List Int} {n m : Nat} (hf : fine 6 (polD l)) (hp : PolOk n l) (hi : fine m (intsD ns)) (hn : ns.length ≤ 2) : ValC l ns :=
  ⟨fine_ints hi, hn, fun t ht => ⟨(hp.ok t ht).bd, fine_int (n := 4) ((hf.2 (termD t) (List.mem_map.mpr ⟨t, ht, rfl⟩)).2 (.int t.2) (.tail _ (.head _)))⟩, by
    have z := hf.1
    rw [List.length_map] at z
    omega⟩
def terms (d : PyData) : List Term := match d with
  | .tuple ts => ts.map fun t => (degsOf (fstD t), match t with
    | .tuple [_, b] => intOf b
    | _ => 0)
  | _ => []
theorem terms_pol (l : List Term) : terms (polD l) = l := by
  show (l.map termD).map _ = l
  rw [List.map_map]
  conv => rhs; rw [← List.map_id l]
  exact List.map_congr_left fun t _ => by
    show (degsOf (intsD t.1), t.2) = t
    rw [degs_ints]
def valD (d e : PyData) : Int := valI (terms d) (degsOf e)
def sp_value_at (T : Tx P K mg) : Sp := spX (fun x : V × PyData × V × PyData => fine 6 x.2.1 ∧ fine 6 x.2.2.2) (fun x => [nmT K x.1 x.2.1, nmT K x.2.2.1 x.2.2.2]) (fun x => rT (dt K (.int (valD x.2.1 x.2.2.2)))) (fun x => badI T x.1 x.2.2.1 x.2.1 x.2.2.2)
theorem ok_value_at (T : Tx P K mg) : FnOk P w K mg base (L2.CX P w) 7 T.a_value_at T.f_value_at ["polynomial", "items"] (sp_value_at T) := by
  have G_check_polynomial := ok_check_polynomial (w := w) (base := base) T
  have G_value_in := ok_value_in (w := w) (base := base) T
  have G_is_line_of := ok_is_line_of (w := w) (base := base) T
  have nd := sc_value_at.nd
  refine fn_tyX T.F_value_at sc_value_at (fun x _ => rfl) fun cdv Ar outer s H E hr => ⟨_, (pss_cons (ps_if (PW.pt (pw_or (pt_not (pt_val (k_isi (K := K) rfl T.m_isinstance (pa_cons (pv 1) (pa_cons (bt_tuple T.m_tuple) pa_nil))))) (pw_or (pt_cmpR op_gt (k_len (K := K) rfl T.m_len (pa_cons (pv 1) pa_nil)) (pglob T.g_MOST_ITEMS) (nomark _)) (pw_or1 (pt_not (pt_val (pcall G_is_line_of (hr.mono (by decide)) T.D_is_line_of (pa_cons (pv 1) (pa_cons (k_len (K := K) rfl T.m_len (pa_cons (pv 1) pa_nil)) pa_nil))))))))) (pss_one (ps_raiseW rfl T.base T.c_InvalidItems hr (takes_of rfl rfl rfl rfl) (pa_cons (pv 1) pa_nil))) pss_nil)
    (pss_cons (ps_expr (pe_callS G_check_polynomial (hr.mono (by decide)) rfl T.D_check_polynomial.g T.D_check_polynomial.k T.D_check_polynomial.b (fun σ => passAt (takes_of rfl rfl rfl rfl) σ) (pa_cons (pv 0) (pa_cons (k_len (K := K) rfl T.m_len (pa_cons (pv 1) pa_nil)) pa_nil))))
    (pss_one (ps_ret (pcall G_value_in (hr.mono (by decide)) T.D_value_in (pa_cons (pv 0) (pa_cons (pv 1) pa_nil))))))), fun W x hC he => ?_⟩
  obtain ⟨u, d, v, e⟩ := x
  obtain ⟨hf, hg⟩ : fine 6 d ∧ fine 6 e := hC
  refine tys_guard (φ := (· = !itmB e)) ?_ (fun z => tys_raiseG (T := isV v) (ty_nmV rfl) (he _ _ (by show badI T u v d e = _; unfold badI; rw [if_neg (by rw [bnot1' z]; exact Bool.false_ne_true)]))) fun z => ?_
  · cases e with
    | tuple ds =>
      have hz : ds.length ≤ 1000 := fine_size hg
      have ln : Ty W [some (nmT K u d), some (nmT K v (.tuple ds))] (tCB (Ew.rLen K) (tCons (tVar 1) tNil)) (dt K (.int (ds.length : Nat))) := ty_cb (tya_cons (ty_nmD rfl) tya_nil) cbt_lenT
      refine Tt.is (tt_orB (a := false) (Tt.is (tt_notB (tt_B (ty_cb (tya_cons (ty_nmD rfl) (tya_cons ty_c tya_nil)) cbt_isi))) rfl) fun _ => tt_orB (tt_test (ty_op ln ty_int opt_gt)) fun _ => tt_notB (tt_B (ty_call (PyData.tuple ds, ((ds.length : Nat) : Int)) hz (tya_cons (ty_nmD rfl) (tya_cons ln tya_nil))))) ?_
      show (false || (decide ((2 : Int) < (ds.length : Nat)) || !(decide ((ds.length : Int) = (ds.length : Nat)) && ds.all isWholeD))) = !(decide (ds.length ≤ 2) && ds.all isWholeD)
      rw [decide_eq_true rfl, Bool.true_and, Bool.false_or, Bool.not_and, ← decide_not]
      congr 1
      exact decide_eq_decide.mpr (by omega)
    | _ => exact tt_orTr (Tt.is (tt_notB (tt_B (ty_cb (tya_cons (ty_nmD rfl) (tya_cons ty_c tya_nil)) cbt_isi))) rfl)
  · have hi := bnot0' z
    obtain ⟨ns, rfl, hn⟩ := itm_of hi
    have ln : Ty W [some (nmT K u d), some (nmT K v (intsD ns))] (tCB (Ew.rLen K) (tCons (tVar 1) tNil)) (dt K (.int (ns.length : Nat))) := Ty.is (ty_cb (tya_cons (ty_nmD (d := .tuple (ns.map .int)) rfl) tya_nil) cbt_lenT) (by rw [List.length_map])
    have sz : sizeD (intsD ns) = ns.length := List.length_map _
    refine tys_seqG (φ := polyB ns.length d = true) (tys_dropR (tyr_callX (u, d, ns.length) ⟨hf, hn⟩ (tya_cons (ty_var rfl) (tya_cons ln tya_nil)) fun b h => he _ _ (by show badI T u v d (intsD ns) = _; unfold badI; rw [if_pos hi, sz]; exact h)) fun _ _ _ z => badP_none z.1) fun hp => ?_
    obtain ⟨l, rfl, hpo⟩ := poly_of hp
    refine TyS.never (tys_retX (R := rT (dt K (.int (valD (polD l) (intsD ns))))) (by show badI T u v (polD l) (intsD ns) = none; unfold badI; rw [if_pos hi, sz]; unfold badP; rw [if_pos hp]) (Ty.is (ty_call (l, ns) (pol_valC hf hpo hg hn) (tya_cons (ty_nmD rfl) (tya_cons (ty_nmD rfl) tya_nil))) ?_).tyr)
    show _ = PyData.int (valI (terms (polD l)) (degsOf (intsD ns)))
    rw [terms_pol, degs_ints]
end
section
variable {P : Program} {w : World} {K : PySem.W.Frag} {mg : Str → Option Value} {base : Heap}
abbrev absI (g : Int) : Int := if g < 0 then -g else g
def boxTs (K : PySem.W.Frag) (g : Int) : List Typ := [dt K (.int (absI g)), dt K (.bool (decide ((10 : Int) ^ (18 : Int).toNat ≤ absI g))), dt K (.int (absI g % 2147483629)), dt K (.int 0)]
def sp_law_box (K : PySem.W.Frag) : Sp := spL (fun _ : Int => True) (fun g => [dt K (.int g)]) (boxTs K)
theorem boxTs_box {K : PySem.W.Frag} {M B : Addr → Prop} {g : Int} {xs : List V} {H : Hp} (h : TysV M B (boxTs K g) xs H) : BxL xs := by
  match xs, h with
  | [a, b, c, d], h =>
    obtain ⟨h1, h2, h3, h4, _⟩ := h
    cases h1; cases h2; cases h3; cases h4
    exact ⟨_, _, _, _, rfl, by omega, by omega⟩
theorem ok_law_box (T : Tx P K mg) : FnOk P w K mg base (L2.CX P w) 1 T.a_law_box T.f_law_box ["great"] (sp_law_box K) := by
  have nd := sc_law_box.nd
  refine fn_tyL T.F_law_box sc_law_box (fun x _ => rfl) fun cdv Ar outer s H E hr => ⟨_, (pss_one (ps_ret (pe_lst (pa_cons (bi_abs T.m_abs (pa_cons (pv 0) pa_nil)) (pa_cons (pe_cmpR op_ge (bi_abs T.m_abs (pa_cons (pv 0) pa_nil)) (pe_op op_pow pe_int pe_int) (nomark _)) (pa_cons (pe_op op_mod (bi_int T.m_int (pa_cons (bi_abs T.m_abs (pa_cons (pv 0) pa_nil)) pa_nil)) pe_int) (pa_cons pe_int pa_nil))))))), fun W x hC => ?_⟩
  exact TyS.never (tys_retL (tyl_lst (Ts := boxTs K x) (by unfold boxTs; tm_at "tya") (by show 4 ≤ 1000000; decide)))
end
section
variable {P : Program} {w : World} {K : PySem.W.Frag} {mg : Str → Option Value} {base : Heap}
def sp_law_take (K : PySem.W.Frag) : Sp := spT (fun n : Nat => 0 < n ∧ n ≤ 1000000000) (fun n => [bx, dt K (.int (n : Nat))]) (fun n => digT K n)
theorem ix4 (a b c d : V) : atI [a, b, c, d] 0 = some a ∧ atI [a, b, c, d] 1 = some b ∧ atI [a, b, c, d] 2 = some c ∧ atI [a, b, c, d] 3 = some d := ⟨atI_nat (j := 0) rfl, atI_nat (j := 1) rfl, atI_nat (j := 2) rfl, atI_nat (j := 3) rfl⟩
theorem dig_of {K : PySem.W.Frag} {M B : Addr → Prop} {H : Hp} {n : Nat} {i : Int} (h0 : 0 ≤ i) (h1 : i < n) : (digT K n).p M B (.int i) H := by
  refine ⟨i.toNat, by omega, ?_⟩
  have e : ((i.toNat : Nat) : Int) = i := Int.toNat_of_nonneg h0
  show Rp M K H (.int i) (.int ((i.toNat : Nat) : Int))
  rw [e]; exact .int i
theorem ok_law_take (T : Tx P K mg) : FnOk P w K mg base (L2.CX P w) 1 T.a_law_take T.f_law_take ["box", "many"] (sp_law_take K) := by
  have nd := sc_law_take.nd
  refine fn_ty T.F_law_take sc_law_take (fun x _ => rfl) fun cdv Ar outer s H E hr => ⟨_, (pss_cons (ps_if (PW.pt (pw_and (pt_val (pe_ix (k_ix (K := K) rfl) (pv 0) pe_int (fun _ _ => rfl))) (pw_and1 (pt_cmpR op_gt (pe_ix (k_ix (K := K) rfl) (pv 0) pe_int (fun _ _ => rfl)) pe_int (nomark _))))) (pss_cons (pset 2 nd (pe_op op_mod (bi_int T.m_int (pa_cons (pe_ix (k_ix (K := K) rfl) (pv 0) pe_int (fun _ _ => rfl)) pa_nil)) (pv 1)))
    (pss_cons (ps_asg (pe_op op_divA (bi_int T.m_int (pa_cons (pe_ix (k_ix (K := K) rfl) (pv 0) pe_int (fun _ _ => rfl)) pa_nil)) (pv 1)) (pg_sub (pv 0) pe_int set_list))
    (pss_one (ps_ret (pv 2))))) pss_nil)
    (pss_cons (ps_asg (pe_op (k_add (K := K) rfl) (pe_ix (k_ix (K := K) rfl) (pv 0) pe_int (fun _ _ => rfl)) pe_int) (pg_sub (pv 0) pe_int set_list))
    (pss_cons (ps_asg (pe_op op_mod (pe_op (k_add (K := K) rfl) (pe_op (k_add (K := K) rfl) (pe_op op_mulA (pe_ix (k_ix (K := K) rfl) (pv 0) pe_int (fun _ _ => rfl)) pe_int) (pe_op op_mulA pe_int (pe_ix (k_ix (K := K) rfl) (pv 0) pe_int (fun _ _ => rfl)))) pe_int) pe_int) (pg_sub (pv 0) pe_int set_list))
    (pss_one (ps_ret (pe_op op_mod (pe_op op_divA (pe_ix (k_ix (K := K) rfl) (pv 0) pe_int (fun _ _ => rfl)) pe_int) (pv 1))))))), fun W x hC => ?_⟩
  obtain ⟨n0, n1⟩ := hC
  intro σ H c g D dn dr db dc
  obtain ⟨_, g1, g2⟩ : ∃ z : σ.length = 3, (∃ u, σ[0]? = some (some u) ∧ bx.p W.M W.B u H) ∧ (∃ u, σ[1]? = some (some u) ∧ (dt K (.int (x : Nat))).p W.M W.B u H) := ⟨g.length, g.get (i := 0) rfl, g.get (i := 1) rfl⟩
  obtain ⟨u, s0, p, rfl, hB, xs, hH, gr, b, cc, k, rfl, c0, c1⟩ := g1
  obtain ⟨u, s1, hu⟩ := g2
  cases hu
  obtain ⟨i0, i1, i2, i3⟩ := ix4 (.int gr) (.bl b) (.int cc) (.int k)
  have box : BoxAt H p := ⟨_, hH, gr, b, cc, k, rfl, c0, c1⟩
  have gt : ∀ {Q : Bool → Hp → Prop}, Q (b && decide (0 < gr)) H → tAnd (tB (tOp (rIx K) (tVar 0) (tC (.int 1)))) (tTest (tOp (rI0 fun i j => .bl (decide (j < i))) (tOp (rIx K) (tVar 0) (tC (.int 0))) (tC (.int 0)))) σ H Q := fun {Q} q => by
    refine Ev.tbl (ev_ix hH i1 (ev_var s0) ev_c) ?_
    cases b with
    | true => rw [if_pos rfl]; exact Ev.tt (ev_I0 (ev_ix hH i0 (ev_var s0) ev_c) ev_c) (by simpa using q)
    | false => rw [if_neg Bool.false_ne_true]; simpa using q
  refine gt ?_
  cases hb : (b && decide (0 < gr)) with
  | true =>
    rw [if_pos rfl]
    refine ev_I (i := gr) (j := (x : Int)) (by omega) (ev_int (ev_ix hH i0 (ev_var s0) ev_c)) (ev_var s1) _ ?_
    have t0 : (σ.set 2 (some (.int (gr % (x : Int)))))[0]? = some (some (.ref p)) := by rw [List.getElem?_set_ne (by decide)]; exact s0
    have t1 : (σ.set 2 (some (.int (gr % (x : Int)))))[1]? = some (some (.int (x : Int))) := by rw [List.getElem?_set_ne (by decide)]; exact s1
    have t2 : (σ.set 2 (some (.int (gr % (x : Int)))))[2]? = some (some (.int (gr % (x : Int)))) := List.getElem?_set_self (by have gl : σ.length = 3 := g.length; rw [gl]; decide)
    refine ev_put (k := 0) (ev_div (i := gr) (j := (x : Int)) ⟨by omega, ?_⟩ (ev_int (ev_ix hH i0 (ev_var t0) ev_c)) (ev_var t1)) (ev_var t0) ev_c hH rfl ?_
    · have l := Nat.log2_le_self x
      have e : ((x : Int)).natAbs = x := rfl
      rw [e]
      have : x.log2 < 64 := by
        by_cases z : x = 0
        · omega
        · have big : (1000000000 : Nat) < 2 ^ 64 := by decide
          exact (Nat.log2_lt z).mpr (by omega)
      omega
    refine ev_var t2 _ (dr _ _ ⟨c.ex.trans (Ex.turn hB box ⟨_, _, _, _, rfl, c0, c1⟩), ?_⟩)
    exact dig_of (Int.emod_nonneg _ (by omega)) (Int.emod_lt_of_pos _ (by omega))
  | false =>
    rw [if_neg Bool.false_ne_true]
    refine ev_put (k := 3) (ev_add (ev_ix hH i3 (ev_var s0) ev_c) ev_c) (ev_var s0) ev_c hH rfl ?_
    obtain ⟨j0, j1, j2, j3⟩ := ix4 (.int gr) (.bl b) (.int cc) (.int (k + 1))
    have hH1 : upd H p (.lst ([V.int gr, .bl b, .int cc, .int k].set 3 (.int (k + 1)))) p = some (.lst [.int gr, .bl b, .int cc, .int (k + 1)]) := upd_same
    refine ev_put (k := 2) (ev_I (by omega) (ev_add (ev_add (ev_mul (.inr ⟨by decide, by decide⟩) (ev_ix hH1 j2 (ev_var s0) ev_c) ev_c) (ev_mul (.inl ⟨by decide, by decide⟩) ev_c (ev_ix hH1 j3 (ev_var s0) ev_c))) ev_c) ev_c) (ev_var s0) ev_c hH1 rfl ?_
    obtain ⟨m0, m1, m2, m3⟩ := ix4 (.int gr) (.bl b) (.int ((cc * 69623 + 1423 * (k + 1) + 23) % 2147483629)) (.int (k + 1))
    refine ev_I (i := (cc * 69623 + 1423 * (k + 1) + 23) % 2147483629 / 64) (j := (x : Int)) (by omega) (ev_div ⟨by decide, by decide⟩ (ev_ix upd_same m2 (ev_var s0) ev_c) ev_c) (ev_var s1) _ (dr _ _ ⟨?_, ?_⟩)
    · have e1 : Ex W.B H (upd H p (.lst [V.int gr, .bl b, .int cc, .int (k + 1)])) := Ex.turn hB box ⟨_, _, _, _, rfl, c0, c1⟩
      exact c.ex.trans (e1.trans (Ex.turn hB ⟨_, upd_same, _, _, _, _, rfl, c0, c1⟩ ⟨_, _, _, _, rfl, by omega, by omega⟩))
    · exact dig_of (Int.emod_nonneg _ (by omega)) (Int.emod_lt_of_pos _ (by omega))
end
section
variable {P : Program} {w : World} {K : PySem.W.Frag} {mg : Str → Option Value} {base : Heap}
def intT (K : PySem.W.Frag) : Typ := exT fun i : Int => dt K (.int i)
/-- the script, as the law is called with it: no one may write to it -/
def SqF (K : PySem.W.Frag) (H : Hp) (a : Addr) (xs : List V) : Prop :=
  (∃ o, H a = some (.frz o (.lst xs))) ∨ ∃ (o : Obj) (its : Array Value) (n : Nat), K.lookup a = some o ∧ o.cls = .type "list" ∧ o.dict = none ∧ o.data = .seq its n ∧ its.size ≤ sizeLine ∧ Vals xs its.toList
theorem SqF.sq {K : PySem.W.Frag} {H : Hp} {a : Addr} {xs : List V} (h : SqF K H a xs) : SqL K H a xs := h.elim (fun ⟨o, h⟩ => .inl (.inr ⟨o, h⟩)) .inr
def scrT (K : PySem.W.Frag) (ns : List Int) : Typ := ⟨fun _ _ v H => ∃ a, v = .ref a ∧ SqF K H a (ns.map V.int), fun e ⟨a, h1, h2⟩ => ⟨a, h1, h2.elim (fun ⟨o, h⟩ => .inl ⟨o, e.keepT h fun _ z => nomatch z⟩) .inr⟩, fun _ h => h, fun h => h⟩
theorem cbt_lenScr {W : Wd} {K : PySem.W.Frag} {ns : List Int} : CbT W (Ew.rLen K) [scrT K ns] (dt K (.int (ns.length : Nat))) := fun us H c hu Q q => by
  obtain ⟨v, rfl, a, rfl, h⟩ := hu.one
  exact ⟨_, ns.length, rfl, .inl ⟨_, h.sq, by rw [List.length_map]⟩, q _ H (Ex.refl _ _) (.int _)⟩
theorem opt_ixScr {W : Wd} {K : PySem.W.Frag} {ns : List Int} {n : Nat} {z : Int} (e : ns[n]? = some z) : OpT W (rIx K) (scrT K ns) (dt K (.int (n : Nat))) (dt K (.int z)) := fun u v H c ⟨a, h1, h2⟩ hv Q q => by
  subst h1
  cases hv
  exact .inl ⟨a, _, (n : Int), .int z, rfl, rfl, h2.sq, atI_nat (by rw [List.getElem?_map, e]; rfl), q _ H (Ex.refl _ _) (.int _)⟩
theorem tys_of_ints {M B : Addr → Prop} {K : PySem.W.Frag} {H : Hp} : ∀ ns : List Int, TysV M B (ns.map fun n => dt K (.int n)) (ns.map V.int) H
  | [] => True.intro
  | n :: ns => ⟨.int n, tys_of_ints ns⟩
theorem cutV_ints (ns : List Int) (lo hi : Option Int) : cutV (ns.map V.int) lo hi = (cutD ns lo hi).map V.int := by
  unfold cutV cutD
  rw [List.length_map, ← List.map_drop, ← List.map_take]
theorem ty_slScr {W : Wd} {Γ : Gam} {K : PySem.W.Frag} {ns : List Int} {te : TE} {tl th : TO} {lo hi : Option Int} (h : Ty W Γ te (scrT K ns)) (hl : TyO W Γ tl lo) (hh : TyO W Γ th hi) : Ty W Γ (tSl (rSlAll K) te tl th) (lstT ((cutD ns lo hi).map fun n => dt K (.int n))) := fun σ H c g Q q =>
  h σ H c g _ fun v H1 e1 hv => hl σ H1 (c.up e1) (g.up e1.toW) _ fun H2 e2 => hh σ H2 (c.up (e1.trans e2)) (g.up (e1.trans e2).toW) _ fun H3 e3 => by
    obtain ⟨a, rfl, h2⟩ := (scrT K ns).up (e2.trans e3).toW hv
    have e13 := e1.trans (e2.trans e3)
    exact .inl ⟨a, _, rfl, h2.sq, fun p hp => q _ _ (e13.trans (Ex.new hp)) ⟨p, _, rfl, c.nm (e13.free hp), upd_same, by rw [cutV_ints]; exact tys_of_ints _⟩⟩
def sp_law_cell (K : PySem.W.Frag) : Sp := spT (fun x : List Int × Nat => x.2 ≤ 1000) (fun x => [scrT K x.1, dt K (.int (x.2 : Nat))]) (fun _ => intT K)
theorem ok_law_cell (T : Tx P K mg) : FnOk P w K mg base (L2.CX P w) 1 T.a_law_cell T.f_law_cell ["script", "k"] (sp_law_cell K) := by
  have nd := sc_law_cell.nd
  refine fn_ty T.F_law_cell sc_law_cell (fun x _ => rfl) fun cdv Ar outer s H E hr => ⟨_, (pss_one (ps_ret (pe_ifExp (pt_cmpR op_lt (pv 1) (k_len (K := K) rfl T.m_len (pa_cons (pv 0) pa_nil)) (nomark _)) (pe_ix (k_ix (K := K) rfl) (pv 0) (pv 1) (fun _ _ => rfl)) (pe_op (k_add (K := K) rfl) (pe_op op_mulA pe_int (pv 1)) (pe_op op_mod (bi_int T.m_int (pa_cons (k_sum (K := K) rfl T.m_sum (pa_cons (pe_slice (k_sl (K := K) rfl) (pv 0) po_none (po_some pe_int)) pa_nil)) pa_nil)) pe_int))))), fun W x hC => ?_⟩
  obtain ⟨l, n⟩ := x
  dsimp only at hC
  refine TyS.never (tys_retW (ty_if (φ := (· = decide ((n : Int) < (l.length : Nat)))) (tt_test (ty_op (ty_var rfl) (ty_cb (tya_cons (ty_var rfl) tya_nil) cbt_lenScr) opt_lt)) (fun z => ?_) fun z => ?_))
  · have hn : n < l.length := by
      have z1 := of_decide_eq_true z.symm
      omega
    exact Ty.ex (l[n]) (ty_op (ty_var rfl) (ty_var rfl) (opt_ixScr (List.getElem?_eq_getElem hn)))
  · exact Ty.ex (A := fun i : Int => dt K (.int i)) _ (ty_op (ty_op ty_int (ty_var rfl) (opt_mul (.inl ⟨by decide, by decide⟩))) (ty_op (ty_cb (tya_cons (ty_cb (tya_cons (ty_slScr (ty_var rfl) tyo_none (tyo_some (ty_int (K := K)))) tya_nil) cbt_sum) tya_nil) cbt_intI) ty_int (opt_mod (by decide))) opt_add)
end
section
variable {P : Program} {w : World} {K : PySem.W.Frag} {mg : Str → Option Value} {base : Heap}
/-- values of a dict -/
def valS : PyData → Prop
  | .int _ => True
  | .list [.int _] => True
  | _ => False
/-- what is compared: no deeper than n, nothing too long -/
def smOk : Nat → PyData → Prop
  | 0, _ => False
  | n + 1, .list ds => ds.length ≤ 1000 ∧ ∀ e ∈ ds, smOk n e
  | n + 1, .tuple ds => ds.length ≤ 1000 ∧ ∀ e ∈ ds, smOk n e
  | _ + 1, .str x => x.length ≤ 1000
  | n + 1, .dict kvs => ∃ ks : List (Str × PyData), kvs = (ks.map fun p => (PyData.str p.1, p.2)) ∧ List.Nodup (ks.map fun p : Str × PyData => p.1) ∧ ks.length ≤ 1000 ∧ ∀ p ∈ ks, valS p.2 ∧ smOk n p.2
  | _ + 1, _ => True
def sr_law_same (K : PySem.W.Frag) (n : Nat) : Sp := spT (smOk n) (fun d => [dt K d, dt K d]) (fun _ => dt K (.bool true))
def sp_law_same (K : PySem.W.Frag) : Sp := sr_law_same K 8
theorem cutS_one {z : Str} {k c : Nat} (h : z.cps.toList[k]? = some c) : cutS z (some (k : Int)) (some ((k : Int) + 1)) = ⟨#[c]⟩ := by
  have hk : k < z.cps.toList.length := (List.getElem?_eq_some_iff.mp h).1
  have hl : z.cps.toList.length = z.length := rfl
  unfold cutS
  have e1 : HT.sIx z.length 0 (some (k : Int)) = k := by rw [HT.sIx_nat]; omega
  have e2 : HT.sIx z.length z.length (some ((k : Int) + 1)) = k + 1 := by
    have e3 : ((k : Int) + 1) = ((k + 1 : Nat) : Int) := rfl
    rw [e3, HT.sIx_nat]; omega
  rw [e1, e2]
  have e4 : k + 1 - k = 1 := by omega
  rw [e4, List.drop_eq_getElem_cons hk, List.take_succ_cons, List.take_zero]
  have e5 := (List.getElem?_eq_some_iff.mp h).2
  rw [e5]
theorem RpK_get {M : Addr → Prop} {K : PySem.W.Frag} {H : Hp} : ∀ {ks : List (Str × PyData)} {kvs : List (Key × V)}, RpK M K H kvs (ks.map fun p => (PyData.str p.1, p.2)) → ∀ j : Nat, (∀ p : Str × PyData, ks[j]? = some p → ∃ v : V, kvs[j]? = some ((Sum.inr p.1 : Key), v) ∧ Rp M K H v p.2) ∧ (ks[j]? = none → kvs[j]? = none)
  | [], kvs, h, j => by
    cases h
    exact ⟨fun p e => by simp at e, fun _ => rfl⟩
  | q :: ks, kvs, h, j => by
    have h' : RpK M K H kvs ((PyData.str q.1, q.2) :: ks.map fun p => (PyData.str p.1, p.2)) := h
    generalize hd : PyData.str q.1 = kd at h'
    cases h' with
    | @cons k v vs _ _ h1 r =>
      obtain rfl : k = .inr q.1 := by
        cases k with
        | inl z => cases hd
        | inr z => cases hd; rfl
      cases j with
      | zero => exact ⟨fun p e => by cases e; exact ⟨v, rfl, h1⟩, fun e => by cases e⟩
      | succ j =>
        have z := RpK_get r j
        exact ⟨fun p e => z.1 p (by simpa using e), fun e => by simpa using z.2 (by simpa using e)⟩
theorem RpK_keys {M : Addr → Prop} {K : PySem.W.Frag} {H : Hp} : ∀ {ks : List (Str × PyData)} {kvs : List (Key × V)}, RpK M K H kvs (ks.map fun p => (PyData.str p.1, p.2)) → kvs.map (·.1) = ks.map fun p => Sum.inr p.1
  | [], kvs, h => by cases h; rfl
  | q :: ks, kvs, h => by
    have h' : RpK M K H kvs ((PyData.str q.1, q.2) :: ks.map fun p => (PyData.str p.1, p.2)) := h
    generalize hd : PyData.str q.1 = kd at h'
    cases h' with
    | @cons k v vs _ _ h1 r =>
      obtain rfl : k = .inr q.1 := by
        cases k with
        | inl z => cases hd
        | inr z => cases hd; rfl
      rw [List.map_cons, List.map_cons, RpK_keys r]
theorem valV_at : ∀ {kvs : List (Key × V)} {j : Nat} {k : Key} {v : V}, (kvs.map (·.1)).Nodup → kvs[j]? = some (k, v) → valV kvs k = some v
  | [], _, _, _, _, e => by simp at e
  | q :: kvs, 0, k, v, _, e => by
    cases e
    exact valV_pos rfl
  | q :: kvs, j + 1, k, v, h, e => by
    rw [List.map_cons, List.nodup_cons] at h
    have e' : kvs[j]? = some (k, v) := by simpa using e
    rw [valV_neg (fun z => h.1 (by rw [z]; exact List.mem_map.mpr ⟨_, List.mem_of_getElem? e', rfl⟩))]
    exact valV_at h.2 e'
theorem nodup_inr : ∀ {l : List Str}, l.Nodup → (l.map (Sum.inr : Str → Key)).Nodup
  | [], _ => List.nodup_nil
  | x :: l, h => by
    rw [List.nodup_cons] at h
    rw [List.map_cons, List.nodup_cons]
    exact ⟨fun z => by
      obtain ⟨y, hy, e⟩ := List.mem_map.mp z
      cases e
      exact h.1 hy, nodup_inr h.2⟩
/-- a walk over the keys of a dict, where the test is false -/
theorem ty_keysS {W : Wd} {Γ : Gam} {K : PySem.W.Frag} {ks : List (Str × PyData)} {n : Nat} (nd : List.Nodup (ks.map fun p : Str × PyData => p.1)) (hs : ∀ p ∈ ks, valS p.2 ∧ smOk n p.2) (hΓ : Γ = [some (dt K (.dict (ks.map fun p => (PyData.str p.1, p.2)))), some (dt K (.dict (ks.map fun p => (PyData.str p.1, p.2)))), none, none, none]) : Ty W Γ (tLockE (tLc (iKeys (tVar 1)) (gName 4) (tOr (tB (tDNotIn (tVar 4) (tVar 0))) (tNot (tB (tCall (sr_law_same K n) [] E0 (tCons (tDGet (tVar 0) (tVar 4)) (tCons (tDGet (tVar 1) (tVar 4)) tNil)))))) (tVar 4) [4])) (dt K (.list [])) := fun σ H c g Q q => by
  subst hΓ
  match σ, g with
  | [some u, some v, s2, s3, s4], g =>
    obtain ⟨g1, g2, _⟩ := g
    cases g1 with
    | @dic d0 kvs0 _ e0 r0 =>
    cases g2 with
    | @dic d kvs _ e1 r1 =>
    have nd0 : (kvs0.map (·.1)).Nodup := by
      rw [RpK_keys r0]
      have z := nodup_inr nd
      rw [List.map_map] at z
      exact z
    have nd1 : (kvs.map (·.1)).Nodup := by
      rw [RpK_keys r1]
      have z := nodup_inr nd
      rw [List.map_map] at z
      exact z
    refine ⟨d, .dK kvs, e1, trivial, fun od => ⟨.ref d, rfl, d, od, rfl, .inl ⟨kvs, upd_same, fun D hD => ?_⟩⟩⟩
    have hd1 : upd H d (.frz od (.dK kvs)) d = some (.frz od (.dK kvs)) := upd_same
    have nD : d ≠ D := ne_of_none hd1 hD
    have HD : H D = none := by rw [upd_ne (Ne.symm nD)] at hD; exact hD
    have fz : ∀ {H2 : Hp}, Ex (fun _ => False) (upd (upd H d (.frz od (.dK kvs))) D (.lst [])) H2 → H2 d = some (.frz od (.dK kvs)) := fun {H2} h => h.keep (by rw [upd_ne nD]; exact hd1) id
    have rd : ∀ {H2 : Hp} {b : Addr} {kv : List (Key × V)} {x : Str} {w : V}, H b = some (.dK kv) → valV kv (.inr x) = some w → Ex (fun _ => False) (upd (upd H d (.frz od (.dK kvs))) D (.lst [])) H2 → DGet H2 b (.str x) (some w) := fun {H2 b kv x w} hb hv h => by
      refine .inl ⟨kv, .inr x, ?_, rfl, hv.symm⟩
      by_cases eb : b = d
      · subst eb
        rw [e1] at hb
        cases hb
        exact .inr ⟨od, fz h⟩
      · exact .inl (h.keep (by rw [upd_ne (ne_of_none hb HD), upd_ne eb]; exact hb) id)
    have val : ∀ {H2 : Hp} {w : V} {x : PyData}, valS x → Rp W.M K H w x → Ex (fun _ => False) (upd (upd H d (.frz od (.dK kvs))) D (.lst [])) H2 → Rp (fun _ => False) K H2 w x := fun {H2 w x} hx hr h => by
      cases hr with
      | int i => exact .int i
      | @lst b xs ds hb hm hr =>
        cases hr with
        | nil => exact hx.elim
        | @cons y ys z zs h1 h2 =>
          cases h1 with
          | int i =>
            cases h2 with
            | nil =>
              refine .lst (h.keep ?_ id) id (.cons (.int i) .nil)
              rw [upd_ne (ne_of_none hb HD), upd_ne (fun q => by rw [q, e1] at hb; cases hb)]
              exact hb
            | cons _ _ => exact hx.elim
          | _ => exact hx.elim
      | _ => exact hx.elim
    refine lc_it walk_keys (fun _ H2 => Ex (fun _ => False) (upd (upd H d (.frz od (.dK kvs))) D (.lst [])) H2) (Ex.refl _ _) (fun _ H2 _ h => fz h) ?_ ?_
    · rintro j xv H2 H3 hj h2 ⟨rfl, k, v', hk, rfl⟩
      cases hp : ks[j]? with
      | none =>
        rw [(RpK_get r1 j).2 hp] at hk
        cases hk
      | some p =>
        obtain ⟨w1, k1, k2⟩ := (RpK_get r1 j).1 p hp
        obtain ⟨w0, k3, k4⟩ := (RpK_get r0 j).1 p hp
        rw [k1] at hk
        cases hk
        obtain ⟨hv, hst⟩ := hs p (List.mem_of_getElem? hp)
        have v0 := valV_at nd0 k3
        have v1 := valV_at nd1 k1
        refine ⟨rfl, ?_⟩
        refine ⟨.str p.1, rfl, .ref d0, rfl, d0, some w0, rfl, rd e0 v0 h2, false, rfl, ?_⟩
        dsimp only
        rw [if_neg Bool.false_ne_true]
        refine ⟨.ref d0, rfl, .str p.1, rfl, d0, w0, rfl, rd e0 v0 h2, .ref d, rfl, .str p.1, rfl, d, v', rfl, rd e1 v1 h2, ?_⟩
        refine ⟨fun _ => False, fun _ => False, p.2, fun _ z => z, fun _ z => z.elim, fun _ z => z.elim, hst, ⟨val hv k4 h2, val hv k2 h2, True.intro⟩, fun v H' e hv => ?_⟩
        cases hv
        exact ⟨true, rfl, by dsimp only; rw [if_neg (by decide)]; exact h2.trans e⟩
    · intro H2 h
      refine ⟨fz h, q _ _ (fun a o ha => .inl ?_) (.lst (xs := []) ?_ (c.nm HD) .nil)⟩
      · by_cases ea : a = d
        · subst ea
          rw [e1] at ha
          cases ha
          exact upd_same
        · rw [upd_ne ea]
          exact h.keep (by rw [upd_ne (ne_of_none ha HD), upd_ne ea]; exact ha) id
      · rw [upd_ne (Ne.symm nD)]
        exact h.keep upd_same id
theorem okr_law_same (T : Tx P K mg) : ∀ n : Nat, FnOk P w K mg base (L2.CX P w) (0 + n) T.a_law_same T.f_law_same ["told", "due"] (sr_law_same K n)
  | 0 => ⟨fun vs H Q E ⟨_, _, _, _, _, _, z, _⟩ => z.elim, fun A outer s H args us vs Q E _ _ _ _ ⟨_, _, _, _, _, _, z, _⟩ => z.elim⟩
  | n + 1 => by
    have G_law_same := okr_law_same T n
    have nd := sc_law_same.nd
    refine fn_ty T.F_law_same sc_law_same (fun x _ => rfl) fun cdv Ar outer s H E hr => ⟨_, (pss_cons (ps_if (PW.pt (pw_or (pt_cmpR op_isN (pv 1) pe_non (nomark _)) (pw_or1 (pt_val (k_isi (K := K) rfl T.m_isinstance (pa_cons (pv 1) (pa_cons (bt_bool T.m_bool) pa_nil))))))) (pss_one (ps_ret (pe_ifExp (pt_cmpR op_isN (pv 1) pe_non (nomark _)) (pe_cmpR op_isN (pv 0) pe_non (nomark _)) (pe_and (k_isi (K := K) rfl T.m_isinstance (pa_cons (pv 0) (pa_cons (bt_bool T.m_bool) pa_nil))) (pe_one (pe_cmpR (k_eq (K := K) rfl hr.units) (pe_cmpR op_isBl (pv 0) pe_bl (nomark _)) (pe_cmpR op_isBl (pv 1) pe_bl (nomark _)) (nomark _))))))) pss_nil)
    (pss_cons (ps_if (pt_val (k_isi (K := K) rfl T.m_isinstance (pa_cons (pv 1) (pa_cons (bt_int T.m_int) pa_nil)))) (pss_one (ps_ret (pe_and (k_isi (K := K) rfl T.m_isinstance (pa_cons (pv 0) (pa_cons (bt_int T.m_int) pa_nil))) (pe_and (pe_not (k_isi (K := K) rfl T.m_isinstance (pa_cons (pv 0) (pa_cons (bt_bool T.m_bool) pa_nil)))) (pe_one (pe_cmpR (k_eq (K := K) rfl hr.units) (pe_op op_sub (bi_int T.m_int (pa_cons (pv 0) pa_nil)) (pv 1)) pe_int (nomark _))))))) pss_nil)
    (pss_cons (ps_if (pt_val (k_isi (K := K) rfl T.m_isinstance (pa_cons (pv 1) (pa_cons (bt_str T.m_str) pa_nil)))) (pss_cons (pset 2 nd (pe_and (k_isi (K := K) rfl T.m_isinstance (pa_cons (pv 0) (pa_cons (bt_str T.m_str) pa_nil))) (pe_one (pe_cmpR (k_eq (K := K) rfl hr.units) (k_lenA (K := K) rfl T.m_len (pa_cons (pv 0) pa_nil)) (k_lenA (K := K) rfl T.m_len (pa_cons (pv 1) pa_nil)) (nomark _)))))
    (pss_one (ps_ret (pe_and (pv 2) (pe_one (pe_cmpR (k_eq (K := K) rfl hr.units) (plc [("k", 3)] nd (pi_range1 rfl T.m_range (pa_cons (k_lenA (K := K) rfl T.m_len (pa_cons (pv 1) pa_nil)) pa_nil)) (fun _ _ _ _ _ => (pgn 3 nd)) (fun _ _ _ _ _ => (pts_one (pt_cmpR (k_ne (K := K) rfl hr.units) (pe_slice (k_sl (K := K) rfl) (pv 0) (po_some (pv 3)) (po_some (pe_op (k_add (K := K) rfl) (pv 3) pe_int))) (pe_ix (k_ix (K := K) rfl) (pv 1) (pv 3) (fun _ _ => rfl)) (nomark _)))) (fun _ _ _ _ _ => (pv 3)) (by kernel_rfl)) (pe_lst pa_nil) (nomark _))))))) pss_nil)
    (pss_cons (ps_if (pt_val (k_isi (K := K) rfl T.m_isinstance (pa_cons (pv 1) (pa_cons (bt_dict T.m_dict) pa_nil)))) (pss_cons (ps_if (PW.pt (pw_or (pt_not (pt_val (k_isi (K := K) rfl T.m_isinstance (pa_cons (pv 0) (pa_cons (bt_dict T.m_dict) pa_nil))))) (pw_or1 (pt_cmpR (k_ne (K := K) rfl hr.units) (k_lenA (K := K) rfl T.m_len (pa_cons (pv 0) pa_nil)) (k_lenA (K := K) rfl T.m_len (pa_cons (pv 1) pa_nil)) (nomark _))))) (pss_one (ps_ret pe_bl)) pss_nil)
    (pss_one (ps_ret (pe_cmpR (k_eq (K := K) rfl hr.units) (pe_lock (plc [("key", 4)] nd (pi_keys (pv 1)) (fun _ _ _ _ _ => (pgn 4 nd)) (fun _ _ _ _ _ => (pts_one (PW.pt (pw_or (pt_cmp (pc_dnotin (hu1 hr.units) (pv 4) (pv 0)) rfl) (pw_or1 (pt_not (pt_val (pcall G_law_same hr T.D_law_same (pa_cons (pe_dget (hu1 hr.units) (pv 0) (pv 4) (fun _ _ => rfl)) (pa_cons (pe_dget (hu1 hr.units) (pv 1) (pv 4) (fun _ _ => rfl)) pa_nil)))))))))) (fun _ _ _ _ _ => (pv 4)) (by kernel_rfl))) (pe_lst pa_nil) (nomark _))))) pss_nil)
    (pss_cons (ps_if (PW.pt (pw_or (pt_cmpR (k_ne (K := K) rfl hr.units) (k_isi (K := K) rfl T.m_isinstance (pa_cons (pv 0) (pa_cons (bt_list T.m_list) pa_nil))) (k_isi (K := K) rfl T.m_isinstance (pa_cons (pv 1) (pa_cons (bt_list T.m_list) pa_nil))) (nomark _)) (pw_or (pt_not (pt_val (k_isi2 (K := K) rfl T.m_isinstance (pa_cons (pv 0) (pa_cons (pe_tup (pa_cons (bt_list T.m_list) (pa_cons (bt_tuple T.m_tuple) pa_nil))) pa_nil))))) (pw_or1 (pt_cmpR (k_ne (K := K) rfl hr.units) (k_lenA (K := K) rfl T.m_len (pa_cons (pv 0) pa_nil)) (k_lenA (K := K) rfl T.m_len (pa_cons (pv 1) pa_nil)) (nomark _)))))) (pss_one (ps_ret pe_bl)) pss_nil)
    (pss_one (ps_ret (pe_cmpR (k_eq (K := K) rfl hr.units) (plc [("k", 3)] nd (pi_range1 rfl T.m_range (pa_cons (k_lenA (K := K) rfl T.m_len (pa_cons (pv 1) pa_nil)) pa_nil)) (fun _ _ _ _ _ => (pgn 3 nd)) (fun _ _ _ _ _ => (pts_one (pt_not (pt_val (pcall G_law_same hr T.D_law_same (pa_cons (pe_ix (k_ix (K := K) rfl) (pv 0) (pv 3) (fun _ _ => rfl)) (pa_cons (pe_ix (k_ix (K := K) rfl) (pv 1) (pv 3) (fun _ _ => rfl)) pa_nil))))))) (fun _ _ _ _ _ => (pv 3)) (by kernel_rfl)) (pe_lst pa_nil) (nomark _))))))))), fun W x hC => ?_⟩
    cases x with
    | none =>
      refine tys_guard (φ := (· = true)) (tt_orTr (by tm_at "ttis")) (fun _ => tys_retW (ty_if (φ := (· = true)) (by tm_at "ttis") (fun _ => by tm_at "tyis") fun z => Bool.noConfusion z)) (fun z => Bool.noConfusion z)
    | bool b =>
      refine tys_guard (φ := (· = true)) (by tm_at "ttis") (fun _ => tys_retW (ty_if (φ := (· = false)) (by tm_at "ttis") (fun z => Bool.noConfusion z) fun _ => ?_)) (fun z => Bool.noConfusion z)
      refine' Ty.is ?h1 ?h2
      case h1 => tm_at "ty"
      case h2 => cases b <;> rfl
    | int i =>
      refine tys_guard (φ := (· = false)) (by tm_at "ttis") (fun z => Bool.noConfusion z) (fun _ => tys_guard (φ := (· = true)) (by tm_at "ttis") (fun _ => tys_retW ?_) (fun z => Bool.noConfusion z))
      refine' Ty.is ?h1 ?h2
      case h1 => tm_at "ty"
      case h2 => simp [isD, tyD]
    | str z =>
      have hz : z.length ≤ 1000 := hC
      refine tys_guard (φ := (· = false)) (by tm_at "ttis") (fun z => Bool.noConfusion z) (fun _ => tys_guard (φ := (· = false)) (by tm_at "ttis") (fun z => Bool.noConfusion z) (fun _ => tys_guard (φ := (· = true)) (by tm_at "ttis") (fun _ => ?_) (fun z => Bool.noConfusion z)))
      refine tys_seqE (W' := W) (Γ' := [some (dt K (.str z)), some (dt K (.str z)), some (dt K (.bool true)), none, none]) (tys_set (Ty.is (ty_andV (a := true) (b := true) (by tm_at "tyis") fun _ => Ty.is (ty_op (ty_cb (tya_cons (ty_var rfl) tya_nil) (cbt_lenA (cbt_lenS (by omega)))) (ty_cb (tya_cons (ty_var rfl) tya_nil) (cbt_lenA (cbt_lenS (by omega)))) opt_eqI) (by simp)) rfl)) (tys_retW (Ty.is (ty_andV (a := true) (b := true) (ty_var rfl) fun _ => ty_op (ty_lstG (f := fun k : Nat => .int (k : Nat)) (xs := (List.range z.length).filter fun _ => false) ?_ |>.is ?_) (ty_lstD (ds := []) tya_nil (by decide)) opt_eqL0) rfl))
      · refine tyl_filter (fun k : Nat => dt K (.int (k : Nat))) (fun k : Nat => dt K (.int (k : Nat))) (fun _ => false) (tyi_rng (n := z.length) (tya_cons (ty_cb (tya_cons (ty_var rfl) tya_nil) (cbt_lenA (cbt_lenS (by omega)))) tya_nil) (by omega)) (by rw [List.length_range]; omega) (by decide) fun W' k hk => ⟨?_, fun z => Bool.noConfusion z⟩
        have hk' : k < z.cps.toList.length := List.mem_range.mp hk
        have hc := List.getElem?_eq_getElem hk'
        exact Tt.is (tt_test (ty_op (ty_slS (by omega) (ty_var rfl) (tyo_some (ty_var rfl)) (tyo_some (ty_op (ty_var rfl) ty_int opt_add))) (ty_op (ty_var rfl) (ty_var rfl) (opt_ixS (by omega) (atI_nat hc))) opt_neS)) (by rw [cutS_one hc]; simp)
      · simp
    | list ds =>
      obtain ⟨h1, h2⟩ : ds.length ≤ 1000 ∧ ∀ e ∈ ds, smOk n e := hC
      refine tys_guard (φ := (· = false)) (by tm_at "ttis") (fun z => Bool.noConfusion z) (fun _ => tys_guard (φ := (· = false)) (by tm_at "ttis") (fun z => Bool.noConfusion z) (fun _ => tys_guard (φ := (· = false)) (by tm_at "ttis") (fun z => Bool.noConfusion z) fun _ => tys_guard (φ := (· = false)) (by tm_at "ttis") (fun z => Bool.noConfusion z) fun _ => tys_guard (φ := (· = false)) ?_ (fun z => Bool.noConfusion z) fun _ => TyS.never (tys_retW (ty_op (ty_lstG (f := fun k : Nat => .int (k : Nat)) (xs := (List.range ds.length).filter fun _ => false) ?_ |>.is ?_) (ty_lstD (ds := []) tya_nil (by decide)) opt_eqL0))))
      · exact Tt.is (tt_orB (a := false) (by tm_at "ttis") fun _ => tt_orB (a := false) (by tm_at "ttis") fun _ => tt_test (ty_op (ty_cb (tya_cons (ty_var rfl) tya_nil) (cbt_lenA cbt_lenL)) (ty_cb (tya_cons (ty_var rfl) tya_nil) (cbt_lenA cbt_lenL)) opt_neI)) (by simp)
      · refine tyl_filter (fun k : Nat => dt K (.int (k : Nat))) (fun k : Nat => dt K (.int (k : Nat))) (fun _ => false) (tyi_rng (n := ds.length) (tya_cons (ty_cb (tya_cons (ty_var rfl) tya_nil) (cbt_lenA cbt_lenL)) tya_nil) (by omega)) (by rw [List.length_range]; omega) (by decide) fun W' k hk => ⟨?_, fun z => Bool.noConfusion z⟩
        have hk' : k < ds.length := List.mem_range.mp hk
        have e := List.getElem?_eq_getElem hk'
        exact Tt.is (tt_notB (tt_B (ty_call (ds[k]) (h2 _ (List.getElem_mem hk')) (tya_cons (ty_op (ty_var rfl) (ty_var rfl) (opt_ixL (atI_nat e))) (tya_cons (ty_op (ty_var rfl) (ty_var rfl) (opt_ixL (atI_nat e))) tya_nil))))) rfl
      · simp
    | tuple ds =>
      obtain ⟨h1, h2⟩ : ds.length ≤ 1000 ∧ ∀ e ∈ ds, smOk n e := hC
      refine tys_guard (φ := (· = false)) (by tm_at "ttis") (fun z => Bool.noConfusion z) (fun _ => tys_guard (φ := (· = false)) (by tm_at "ttis") (fun z => Bool.noConfusion z) (fun _ => tys_guard (φ := (· = false)) (by tm_at "ttis") (fun z => Bool.noConfusion z) fun _ => tys_guard (φ := (· = false)) (by tm_at "ttis") (fun z => Bool.noConfusion z) fun _ => tys_guard (φ := (· = false)) ?_ (fun z => Bool.noConfusion z) fun _ => TyS.never (tys_retW (ty_op (ty_lstG (f := fun k : Nat => .int (k : Nat)) (xs := (List.range ds.length).filter fun _ => false) ?_ |>.is ?_) (ty_lstD (ds := []) tya_nil (by decide)) opt_eqL0))))
      · exact Tt.is (tt_orB (a := false) (by tm_at "ttis") fun _ => tt_orB (a := false) (by tm_at "ttis") fun _ => tt_test (ty_op (ty_cb (tya_cons (ty_var rfl) tya_nil) (cbt_lenA cbt_lenT)) (ty_cb (tya_cons (ty_var rfl) tya_nil) (cbt_lenA cbt_lenT)) opt_neI)) (by simp)
      · refine tyl_filter (fun k : Nat => dt K (.int (k : Nat))) (fun k : Nat => dt K (.int (k : Nat))) (fun _ => false) (tyi_rng (n := ds.length) (tya_cons (ty_cb (tya_cons (ty_var rfl) tya_nil) (cbt_lenA cbt_lenT)) tya_nil) (by omega)) (by rw [List.length_range]; omega) (by decide) fun W' k hk => ⟨?_, fun z => Bool.noConfusion z⟩
        have hk' : k < ds.length := List.mem_range.mp hk
        have e := List.getElem?_eq_getElem hk'
        exact Tt.is (tt_notB (tt_B (ty_call (ds[k]) (h2 _ (List.getElem_mem hk')) (tya_cons (ty_op (ty_var rfl) (ty_var rfl) (opt_ixT (atI_nat e))) (tya_cons (ty_op (ty_var rfl) (ty_var rfl) (opt_ixT (atI_nat e))) tya_nil))))) rfl
      · simp
    | dict kvs =>
      obtain ⟨ks, rfl, nd', hl, hs⟩ : ∃ ks : List (Str × PyData), kvs = (ks.map fun p => (PyData.str p.1, p.2)) ∧ List.Nodup (ks.map fun p : Str × PyData => p.1) ∧ ks.length ≤ 1000 ∧ ∀ p ∈ ks, valS p.2 ∧ smOk n p.2 := hC
      refine tys_guard (φ := (· = false)) (by tm_at "ttis") (fun z => Bool.noConfusion z) (fun _ => tys_guard (φ := (· = false)) (by tm_at "ttis") (fun z => Bool.noConfusion z) (fun _ => tys_guard (φ := (· = false)) (by tm_at "ttis") (fun z => Bool.noConfusion z) fun _ => tys_guard (φ := (· = true)) (by tm_at "ttis") (fun _ => ?_) fun z => Bool.noConfusion z))
      refine tys_guard (φ := (· = false)) (Tt.is (tt_orB (a := false) (by tm_at "ttis") fun _ => tt_test (ty_op (ty_cb (tya_cons (ty_var rfl) tya_nil) cbt_lenDict) (ty_cb (tya_cons (ty_var rfl) tya_nil) cbt_lenDict) opt_neI)) (by simp)) (fun z => Bool.noConfusion z) fun _ => TyS.never (tys_retW (ty_op (ty_keysS nd' hs rfl) (ty_lstD (ds := []) tya_nil (by decide)) opt_eqL0))
theorem ok_law_same (T : Tx P K mg) : FnOk P w K mg base (L2.CX P w) 8 T.a_law_same T.f_law_same ["told", "due"] (sp_law_same K) := okr_law_same T 8
end
section
variable {P : Program} {w : World} {K : PySem.W.Frag} {mg : Str → Option Value} {base : Heap}
def isLD : PyData → Prop
  | .list _ => True
  | .dict _ => True
  | _ => False
/-- the same data, a new list or dict -/
def rCopy (K : PySem.W.Frag) (d : PyData) : Res := ⟨fun M B H0 v H => Rp M K H v d ∧ (isLD d → ∃ p, v = .ref p ∧ H0 p = none), fun e ⟨h1, h2⟩ => ⟨h1, fun z => let ⟨p, h3, h4⟩ := h2 z; ⟨p, h3, e.free h4⟩⟩⟩
def sr_law_copy (K : PySem.W.Frag) (n : Nat) : Sp := spR (fine n) (fun d => [dt K d]) (fun d => rCopy K d)
def sp_law_copy (K : PySem.W.Frag) : Sp := sr_law_copy K 8
theorem tyr_newD {W : Wd} {Γ : Gam} {te : TE} {ds : List PyData} (h : TyL W Γ te (ds.map (dt K))) : TyR W Γ te ((rCopy K (.list ds)).p W.M W.B) := fun σ H c g Q q => h σ H c g Q fun p xs H1 e h1 h2 h3 => q _ H H1 (Ex.refl _ _) e ⟨.lst h2 (c.nm h1) h3.data, fun _ => ⟨p, rfl, h1⟩⟩
theorem tyr_same {W : Wd} {Γ : Gam} {te : TE} {d : PyData} (h : Ty W Γ te (dt K d)) (n : ¬ isLD d) : TyR W Γ te ((rCopy K d).p W.M W.B) := h.tyr.sub fun _ _ _ z => ⟨z, fun q => absurd q n⟩
/-- dict([.. for key in d]), d empty -/
theorem tyr_noDict {W : Wd} {Γ : Gam} {g : TG} {tt : TT} {te : TE} {vs : List Nat} {i : Nat} (h : Γ[i]? = some (some (dt K (.dict [])))) : TyR W Γ (tCB (rDictP K) (tCons (tLockE (tLc (iKeys (tVar i)) g tt te vs)) tNil)) ((rCopy K (.dict [])).p W.M W.B) := fun σ H c gm Q q => by
  obtain ⟨v, s0, hv⟩ := gm.get h
  cases hv with
  | @dic d kvs _ e0 r0 =>
    cases r0
    refine ⟨d, .dK [], e0, trivial, fun od => ⟨.ref d, s0, d, od, rfl, .inl ⟨[], upd_same, fun D hD => ?_⟩⟩⟩
    have hd1 : upd H d (.frz od (.dK [])) d = some (.frz od (.dK [])) := upd_same
    have nD : d ≠ D := ne_of_none hd1 hD
    have HD : H D = none := by rw [upd_ne (Ne.symm nD)] at hD; exact hD
    have fz : ∀ {H2 : Hp}, Ex (fun _ => False) (upd (upd H d (.frz od (.dK []))) D (.lst [])) H2 → H2 d = some (.frz od (.dK [])) := fun {H2} h => h.keep (by rw [upd_ne nD]; exact hd1) id
    refine lc_it walk_keys (fun _ H2 => Ex (fun _ => False) (upd (upd H d (.frz od (.dK []))) D (.lst [])) H2) (Ex.refl _ _) (fun _ H2 _ h => fz h) ?_ ?_
    · rintro j xv H2 H3 hj h2 ⟨rfl, k, v', hk, rfl⟩
      exact absurd hj (Nat.not_lt_zero _)
    · intro H2 h
      have ex : Ex W.B H (upd H2 d (.dK [])) := fun a o ha => .inl (by
        by_cases ea : a = d
        · subst ea
          rw [e0] at ha
          cases ha
          exact upd_same
        · rw [upd_ne ea]
          exact h.keep (by rw [upd_ne (ne_of_none ha HD), upd_ne ea]; exact ha) id)
      have hD2 : upd H2 d (.dK []) D = some (.lst []) := by
        rw [upd_ne (Ne.symm nD)]
        exact h.keep upd_same id
      refine ⟨fz h, D, [], [], rfl, SqL.of hD2, .nil, fun p hp => q _ H _ (Ex.refl _ _) (ex.trans (Ex.new hp)) ⟨.dic upd_same .nil, fun _ => ⟨p, rfl, ex.free hp⟩⟩⟩
theorem okr_law_copy (T : Tx P K mg) : ∀ n : Nat, FnOk P w K mg base (L2.CX P w) (0 + n) T.a_law_copy T.f_law_copy ["value"] (sr_law_copy K n)
  | 0 => ⟨fun vs H Q E ⟨_, _, _, _, _, _, z, _⟩ => z.elim, fun A outer s H args us vs Q E _ _ _ _ ⟨_, _, _, _, _, _, z, _⟩ => z.elim⟩
  | n + 1 => by
    have G_law_copy := okr_law_copy T n
    have nd := sc_law_copy.nd
    refine fn_tyR T.F_law_copy sc_law_copy (fun x _ => rfl) fun cdv Ar outer s H E hr => ⟨_, (pss_cons (ps_if (pt_val (k_isi (K := K) rfl T.m_isinstance (pa_cons (pv 0) (pa_cons (bt_list T.m_list) pa_nil)))) (pss_one (ps_ret (plc [("item", 1)] nd (k_iseq (K := K) rfl (pv 0)) (fun _ _ _ _ _ => (pgn 1 nd)) (fun _ _ _ _ _ => pts_nil) (fun _ _ _ _ _ => (pcall G_law_copy hr T.D_law_copy (pa_cons (pv 1) pa_nil))) (by kernel_rfl)))) pss_nil)
    (pss_cons (ps_if (pt_val (k_isi (K := K) rfl T.m_isinstance (pa_cons (pv 0) (pa_cons (bt_tuple T.m_tuple) pa_nil)))) (pss_one (ps_ret (k_tuple (K := K) rfl T.m_tuple (pa_cons (plc [("item", 1)] nd (k_iseq (K := K) rfl (pv 0)) (fun _ _ _ _ _ => (pgn 1 nd)) (fun _ _ _ _ _ => pts_nil) (fun _ _ _ _ _ => (pcall G_law_copy hr T.D_law_copy (pa_cons (pv 1) pa_nil))) (by kernel_rfl)) pa_nil)))) pss_nil)
    (pss_one (ps_ret (pe_ifExp (pt_val (k_isi (K := K) rfl T.m_isinstance (pa_cons (pv 0) (pa_cons (bt_dict T.m_dict) pa_nil)))) (k_dictP (K := K) rfl T.m_dict (pa_cons (pe_lock (plc [("key", 2)] nd (pi_keys (pv 0)) (fun _ _ _ _ _ => (pgn 2 nd)) (fun _ _ _ _ _ => pts_nil) (fun _ _ _ _ _ => (pe_tup (pa_cons (pv 2) (pa_cons (pcall G_law_copy hr T.D_law_copy (pa_cons (pe_dget (hu1 hr.units) (pv 0) (pv 2) (fun _ _ => rfl)) pa_nil)) pa_nil)))) (by kernel_rfl))) pa_nil)) (pv 0)))))), fun W x hC => ?_⟩
    have item : ∀ (ds : List PyData) (wi : TI) (Γ : Gam), (∀ e ∈ ds, fine n e) → ds.length < 60 → 1 < Γ.length → TyI W Γ wi (ds.map (dt K)) → TyL W Γ (tLc wi (gName 1) tYes (tCall (sr_law_copy K n) [] E0 (tCons (tVar 1) tNil)) [1]) (ds.map (dt K)) := fun ds wi Γ h hz hl hi => by
      exact tyl_map (dt K) (dt K) hi (by omega) (by decide) fun W' e he => (tyr_callR e (h e he) (tya_cons (ty_var (by show (Γ.set 1 none |>.set 1 _)[1]? = _; rw [List.getElem?_set_self (by rw [List.length_set]; exact hl)])) tya_nil)).ty fun _ _ _ _ _ z => z.1
    cases x with
    | list ds =>
      obtain ⟨hl, hs'⟩ : ds.length < 60 ∧ ∀ e ∈ ds, fine n e ∧ noL n e := hC
      have hs : ∀ e ∈ ds, fine n e := fun e he => (hs' e he).1
      exact tys_guard (φ := (· = true)) (by tm_at "ttis") (fun _ => tys_retX (R := rCopy K (.list ds)) trivial (tyr_newD (item ds _ _ hs hl (by show 1 < 3; decide) (tyi_seqL ((ty_var rfl).sub fun _ _ _ => data_lstT))))) fun z => Bool.noConfusion z
    | tuple ds =>
      obtain ⟨hl, hs⟩ : ds.length < 60 ∧ ∀ e ∈ ds, fine n e := hC
      exact tys_guard (φ := (· = false)) (by tm_at "ttis") (fun z => Bool.noConfusion z) fun _ => tys_guard (φ := (· = true)) (by tm_at "ttis") (fun _ => tys_retX (R := rCopy K (.tuple ds)) trivial (tyr_same ((ty_tupOf (item ds _ _ hs hl (by show 1 < 3; decide) (tyi_seqT ((ty_var rfl).sub fun _ _ _ => data_tupT)))).sub fun _ _ _ => tupT_data) id)) fun z => Bool.noConfusion z
    | dict kvs =>
      have h0 : kvs = [] := hC
      subst h0
      exact tys_guard (φ := (· = false)) (by tm_at "ttis") (fun z => Bool.noConfusion z) fun _ => tys_guard (φ := (· = false)) (by tm_at "ttis") (fun z => Bool.noConfusion z) fun _ => TyS.never (tys_retX (R := rCopy K (.dict [])) trivial (tyr_if (φ := (· = true)) (by tm_at "ttis") (fun _ => tyr_noDict rfl) fun z => Bool.noConfusion z))
    | _ => exact tys_guard (φ := (· = false)) (by tm_at "ttis") (fun z => Bool.noConfusion z) fun _ => tys_guard (φ := (· = false)) (by tm_at "ttis") (fun z => Bool.noConfusion z) fun _ => TyS.never (tys_retX (R := rCopy K _) trivial (tyr_if (φ := (· = false)) (by tm_at "ttis") (fun z => Bool.noConfusion z) fun _ => tyr_same (ty_var rfl) id))
theorem ok_law_copy (T : Tx P K mg) : FnOk P w K mg base (L2.CX P w) 8 T.a_law_copy T.f_law_copy ["value"] (sp_law_copy K) := okr_law_copy T 8
end
section
variable {P : Program} {w : World} {K : PySem.W.Frag} {mg : Str → Option Value} {base : Heap}
/-- all stands but what may be changed: the value u, a list or dict -/
def VeryH (B : Addr → Prop) (u : V) (d : PyData) (H H' : Hp) : Prop := ∀ a o, H a = some o → (isLD d → u ≠ .ref a) → H' a = some o ∨ (B a ∧ BoxAt H a ∧ BoxAt H' a)
/-- one and the same value twice: something is put behind it -/
def spV (K : PySem.W.Frag) : Sp := fun vs H Q _ => ∃ (M B : Addr → Prop) (u : V) (d : PyData), (∀ a, B a → M a) ∧ (∀ a, B a → BoxAt H a) ∧ (∀ a, M a → H a ≠ none) ∧ fine 6 d ∧ vs = [u, u] ∧ Rp M K H u d ∧
  ∀ H', VeryH B u d H H' → (∀ a, B a → BoxAt H' a) → (∀ a, H a ≠ none → H' a ≠ none) → Q (.bl true) H'
def sp_law_very (K : PySem.W.Frag) : Sp := spV K
theorem fine_sm : ∀ {n : Nat} {d : PyData}, fine n d → smOk n d
  | 0, _, h => h.elim
  | n + 1, .list ds, h => ⟨Nat.le_trans (Nat.le_of_lt h.1) (by decide), fun e he => fine_sm (h.2 e he).1⟩
  | n + 1, .tuple ds, h => ⟨Nat.le_trans (Nat.le_of_lt h.1) (by decide), fun e he => fine_sm (h.2 e he)⟩
  | n + 1, .str x, h => Nat.le_trans h (by decide)
  | n + 1, .dict kvs, h => ⟨[], h, List.nodup_nil, Nat.zero_le _, fun p hp => by cases hp⟩
  | n + 1, .int i, h => trivial
  | n + 1, .none, h => trivial
  | n + 1, .bool _, h => trivial
theorem smOk_up : ∀ {n : Nat} {d : PyData}, smOk n d → smOk (n + 1) d
  | 0, _, h => h.elim
  | n + 1, .list ds, h => ⟨h.1, fun e he => smOk_up (h.2 e he)⟩
  | n + 1, .tuple ds, h => ⟨h.1, fun e he => smOk_up (h.2 e he)⟩
  | n + 1, .str x, h => h
  | n + 1, .dict kvs, ⟨ks, h1, h2, h3, h4⟩ => ⟨ks, h1, h2, h3, fun p hp => ⟨(h4 p hp).1, smOk_up (h4 p hp).2⟩⟩
  | n + 1, .int i, h => trivial
  | n + 1, .none, h => trivial
  | n + 1, .bool _, h => trivial
theorem fine_8 {d : PyData} (h : fine 6 d) : smOk 8 d := smOk_up (smOk_up (fine_sm h))
/-- what holds no list stands while a list or dict is changed -/
theorem noL_keep {M : Addr → Prop} {K : PySem.W.Frag} {H : Hp} {p : Addr} {o o' : HO} (hp : H p = some o) (nt : ∀ xs, o ≠ .tup xs) (nf : ∀ x xs, o ≠ .frz x (.tup xs)) : ∀ {n : Nat} {v : V} {d : PyData}, noL n d → Rp M K H v d → Rp M K (upd H p o') v d
  | 0, _, _, h, _ => h.elim
  | n + 1, _, _, _, .non => .non
  | n + 1, _, _, _, .bl b => .bl b
  | n + 1, _, _, _, .int i => .int i
  | n + 1, _, _, _, .str x => .str x
  | n + 1, _, _, h, .lst _ _ _ => h.elim
  | n + 1, _, _, h, .dic _ _ => h.elim
  | n + 1, _, _, h, .tup (xs := xs) h1 h2 => .tup (by
      rcases h1 with (h1 | ⟨x, h1⟩) | h1
      · exact .inl (.inl (by rw [upd_ne (fun z => nt xs (by rw [z, hp] at h1; exact Option.some.inj h1))]; exact h1))
      · exact .inl (.inr ⟨x, by rw [upd_ne (fun z => nf x xs (by rw [z, hp] at h1; exact Option.some.inj h1))]; exact h1⟩)
      · exact .inr h1) (rpA_keep n h h2)
where rpA_keep (n : Nat) : ∀ {vs : List V} {ds : List PyData}, (∀ e ∈ ds, noL n e) → RpA M K H vs ds → RpA M K (upd H p o') vs ds
  | _, _, _, .nil => .nil
  | _, _, h, .cons h1 h2 => .cons (noL_keep hp nt nf (h _ (.head _)) h1) (rpA_keep n (fun e he => h e (.tail _ he)) h2)
/-- the same, by the words -/
theorem very_same {W : Wd} {Γ : Gam} {u : V} {d : PyData} (h : smOk 8 d) (h0 : Γ[0]? = some (some (nmT K u d))) (h1 : Γ[1]? = some (some (nmT K u d))) : Ty W Γ (tCall (sp_law_same K) [] E0 (tCons (tVar 0) (tCons (tVar 1) tNil))) (dt K (.bool true)) := ty_call d h (tya_cons (ty_nmD h0) (tya_cons (ty_nmD h1) tya_nil))
theorem rpA_all {vs : List V} {ds : List PyData} {M : Addr → Prop} {K : PySem.W.Frag} {H : Hp} {p : Addr} {o o' : HO} {n : Nat} (h : ∀ e ∈ ds, noL n e) (hp : H p = some o) (nt : ∀ xs, o ≠ .tup xs) (nf : ∀ x xs, o ≠ .frz x (.tup xs)) (r : RpA M K H vs ds) : RpA M K (upd H p o') vs ds := noL_keep.rpA_keep hp nt nf n h r
theorem VeryH.ex {B : Addr → Prop} {u : V} {d : PyData} {H H' : Hp} (e : Ex B H H') : VeryH B u d H H' := fun a o h _ => e a o h
theorem ok_law_very (T : Tx P K mg) : FnOk P w K mg base (L2.CX P w) 9 T.a_law_very T.f_law_very ["given", "value"] (sp_law_very K) := by
  have G_law_same := ok_law_same (w := w) (base := base) T
  have nd := sc_law_very.nd
  refine okN T.F_law_very sc_law_very (fun vs H Q E ⟨M, B, u, d, _, _, _, _, z, _⟩ => by rw [z]; rfl) fun cdv Ar outer s H vs Q E hr ⟨M, B, u, d, hs, hb, ha, hf, hv, hr', q⟩ => ⟨_, (pss_cons (ps_if (pt_not (pt_val (pcall G_law_same (hr.mono (by decide)) T.D_law_same (pa_cons (pv 0) (pa_cons (pv 1) pa_nil))))) (pss_one (ps_ret pe_bl)) pss_nil)
    (pss_cons (ps_if (pt_val (k_isi (K := K) rfl T.m_isinstance (pa_cons (pv 1) (pa_cons (bt_list T.m_list) pa_nil)))) (pss_one (ps_expr (k_append (K := K) rfl (pv 1) (pa_cons pe_str pa_nil)))) pss_nil)
    (pss_cons (ps_if (pt_val (k_isi (K := K) rfl T.m_isinstance (pa_cons (pv 1) (pa_cons (bt_dict T.m_dict) pa_nil)))) (pss_one (ps_asg pe_int (pg_sub (pv 1) pe_str (set_dict (hu1 hr.units))))) pss_nil)
    (pss_one (ps_ret (pcall G_law_same (hr.mono (by decide)) T.D_law_same (pa_cons (pv 0) (pa_cons (pv 1) pa_nil)))))))), ?_⟩
  subst hv
  have c0 : Cxt (Wd.base M B H hs) H := ⟨hb, ha, Ex.refl B H, True.intro⟩
  have g0 : EnvW (Wd.base M B H hs) [some (nmT K u d), some (nmT K u d)] [some u, some u] H := ⟨⟨rfl, hr'⟩, ⟨rfl, hr'⟩, True.intro⟩
  have isl : ∀ (T : String) (hT : T ∈ ["int", "bool", "str", "list", "tuple", "dict"]) (W : Wd) (u : V) (d : PyData), Tt W [some (nmT K u d), some (nmT K u d)] (tB (tCB (rIsi K) (tCons (tVar 1) (tCons (tC (.ty T)) tNil)))) (· = isD d T) := fun T hT W u d => tt_B (ty_cb (tya_cons (ty_nmD rfl) (tya_cons ty_c tya_nil)) (cbt_isi hT))
  have first : ∀ (W : Wd), Tt W [some (nmT K u d), some (nmT K u d)] (tNot (tB (tCall (sp_law_same K) [] E0 (tCons (tVar 0) (tCons (tVar 1) tNil))))) (· = false) := fun W => Tt.is (tt_notB (tt_B (very_same (fine_8 hf) rfl rfl))) rfl
  have st : L2.start [("given" : Str), ("value" : Str)] [u, u] = [some u, some u] := rfl
  rw [st]
  unfold tSeq tIfS
  refine first (Wd.base M B H hs) [some u, some u] H c0 g0 _ fun b H1 e1 hb1 => ?_
  subst hb1
  rw [if_neg Bool.false_ne_true]
  have c1 := c0.up e1
  have g1 := g0
  have r1 : Rp M K H1 u d := Rp.up (Ex.toM e1 hs) hr'
  change tB (tCB (rIsi K) (tCons (tVar 1) (tCons (tC (.ty "list")) tNil))) [some u, some u] H1 _
  refine isl "list" (by decide) (Wd.base M B H hs) u d [some u, some u] H1 c1 ⟨⟨rfl, r1⟩, ⟨rfl, r1⟩, True.intro⟩ _ fun b H2 e2 hb2 => ?_
  subst hb2
  have e12 := e1.trans e2
  have c2 := c0.up e12
  have r2 : Rp M K H2 u d := Rp.up (Ex.toM e12 hs) hr'
  have after : ∀ {H3 H4 : Hp}, Ex B H3 H4 → VeryH B u d H H3 → VeryH B u d H H4 := fun {H3 H4} e4 hv3 a o h n => by
    rcases hv3 a o h n with z | ⟨z1, z2, z3⟩
    · rcases e4 a o z with w | ⟨w1, w2, w3⟩
      · exact .inl w
      · refine .inr ⟨w1, ?_, w3⟩
        obtain ⟨xs, w4, w5⟩ := w2
        rw [z] at w4
        cases w4
        exact ⟨xs, h, w5⟩
    · exact .inr ⟨z1, z2, e4.box z3⟩
  have go : ∀ (d' : PyData) (H3 : Hp), smOk 8 d' → Rp M K H3 u d' → (∀ a, B a → BoxAt H3 a) → (∀ a, M a → H3 a ≠ none) → VeryH B u d H H3 → (∀ a, H a ≠ none → H3 a ≠ none) → (tRet (tCall (sp_law_same K) [] E0 (tCons (tVar 0) (tCons (tVar 1) tNil)))) { nx := fun _ H' => Q .non H', rt := Q } [some u, some u] H3 := fun d' H3 hm hr3 hb3 ha3 hv3 hn3 => by
    refine very_same (W := Wd.base M B H3 hs) (Γ := [some (nmT K u d'), some (nmT K u d')]) hm rfl rfl [some u, some u] H3 ⟨hb3, ha3, Ex.refl _ _, True.intro⟩ ⟨⟨rfl, hr3⟩, ⟨rfl, hr3⟩, True.intro⟩ _ fun v H4 e4 hv4 => ?_
    cases hv4
    exact q H4 (after e4 hv3) (fun a h => e4.box (hb3 a h)) fun a h z => hn3 a h (e4.free z)
  have mutd3 : ∀ (H2 : Hp) (e12 : Ex B H H2) (p : Addr) (o o' : HO), u = .ref p → isLD d → H2 p = some o → (∀ xs, o = .lst xs → ¬ M p) → VeryH B u d H (upd H2 p o') ∧ (∀ a, B a → BoxAt (upd H2 p o') a) ∧ (∀ a, M a → (upd H2 p o') a ≠ none) ∧ (∀ a, H a ≠ none → (upd H2 p o') a ≠ none) := fun H2 e12 p o o' hu hl hp nm => by
    have c2 := c0.up e12
    have nb : ¬ B p := fun z => by
      obtain ⟨xs, w1, _⟩ := c2.box p z
      rw [hp] at w1
      cases w1
      exact nm xs rfl (hs p z)
    have ex : ∀ a, H2 a ≠ none → (upd H2 p o') a ≠ none := fun a h => by
      by_cases z : a = p
      · rw [z, upd_same]; intro w; cases w
      · rw [upd_ne z]; exact h
    refine ⟨fun a x h n => ?_, fun a h => ?_, fun a h => ex a (c2.al a h), fun a h => ex a fun z => h (e12.free z)⟩
    · have ne : a ≠ p := fun z => n hl (by rw [hu, z])
      rcases e12 a x h with w | ⟨w1, w2, ys, w3, w4⟩
      · exact .inl (by rw [upd_ne ne]; exact w)
      · exact .inr ⟨w1, w2, ys, by rw [upd_ne ne]; exact w3, w4⟩
    · obtain ⟨xs, w1, w2⟩ := c2.box a h
      exact ⟨xs, by rw [upd_ne (fun z => nb (by rw [← z]; exact h))]; exact w1, w2⟩
  cases d with
  | list ds =>
    refine (if_pos rfl).mpr ?_
    cases r2 with
    | @lst p xs _ h1 nm h2 =>
      have hl : xs.length ≤ 1000 := by rw [h2.length]; exact Nat.le_trans (Nat.le_of_lt hf.1) (by decide)
      refine ⟨.ref p, rfl, .inl ⟨rfl, _, SqL.of h1⟩, p, xs, .str "more", rfl, rfl, h1, sz_lt (by omega), ?_⟩
      obtain ⟨m1, m2, m3, m4⟩ := mutd3 H2 e12 p _ (.lst (xs ++ [V.str ("more" : Str)])) rfl trivial h1 fun _ _ => nm
      have nt : ∀ ys, (HO.lst xs) ≠ .tup ys := fun _ z => nomatch z
      have nf : ∀ x ys, (HO.lst xs) ≠ .frz x (.tup ys) := fun _ _ z => nomatch z
      have r3 : Rp M K (upd H2 p (.lst (xs ++ [V.str ("more" : Str)]))) (.ref p) (.list (ds ++ [PyData.str ("more" : Str)])) := .lst upd_same nm ((rpA_all (fun e he => (hf.2 e he).2) h1 nt nf h2).append (.cons (.str _) .nil))
      have sm : smOk 8 (.list (ds ++ [PyData.str ("more" : Str)])) := ⟨by rw [List.length_append]; exact Nat.le_trans (Nat.add_le_add_right (Nat.le_of_lt hf.1) 1) (by decide), fun e he => by
        rcases List.mem_append.mp he with z | z
        · exact smOk_up (smOk_up (fine_sm (hf.2 e z).1))
        · rw [List.mem_singleton.mp z]
          show ("more" : Str).length ≤ 1000
          decide⟩
      change tB (tCB (rIsi K) (tCons (tVar 1) (tCons (tC (.ty "dict")) tNil))) [some (.ref p), some (.ref p)] _ _
      refine isl "dict" (by decide) (Wd.base M B (upd H2 p (.lst (xs ++ [V.str ("more" : Str)]))) hs) (.ref p) (.list (ds ++ [PyData.str ("more" : Str)])) [some (.ref p), some (.ref p)] _ ⟨m2, m3, Ex.refl _ _, True.intro⟩ ⟨⟨rfl, r3⟩, ⟨rfl, r3⟩, True.intro⟩ _ fun b H3 e3 hb3 => ?_
      subst hb3
      refine (if_neg (fun z => by cases z)).mpr ?_
      have c3 : Cxt (Wd.base M B (upd H2 p (.lst (xs ++ [V.str ("more" : Str)]))) hs) (upd H2 p (.lst (xs ++ [V.str ("more" : Str)]))) := ⟨m2, m3, Ex.refl _ _, True.intro⟩
      have c3' := c3.up e3
      exact go _ H3 sm (Rp.up (Ex.toM e3 hs) r3) c3'.box c3'.al (after e3 m1) fun a h z => m4 a h (e3.free z)
  | dict kvs =>
    have k0 : kvs = [] := hf
    subst k0
    refine (if_neg (fun z => by cases z)).mpr ?_
    change tB (tCB (rIsi K) (tCons (tVar 1) (tCons (tC (.ty "dict")) tNil))) [some u, some u] H2 _
    refine isl "dict" (by decide) (Wd.base M B H hs) u (.dict []) [some u, some u] H2 c2 ⟨⟨rfl, r2⟩, ⟨rfl, r2⟩, True.intro⟩ _ fun b H3 e3 hb3 => ?_
    subst hb3
    refine (if_pos rfl).mpr ?_
    have e13 := e12.trans e3
    have c3 := c0.up e13
    have r3 : Rp M K H3 u (.dict []) := Rp.up (Ex.toM e13 hs) hr'
    cases r3 with
    | @dic p ks _ h1 h2 =>
      cases h2
      refine ⟨.ref p, rfl, p, _, rfl, .inl ⟨[], .inr "more", h1, rfl, sz_lt (by decide), rfl⟩, ?_⟩
      obtain ⟨m1, m2, m3, m4⟩ := mutd3 H3 e13 p _ (.dK (putK [] (.inr "more") (.int 1))) rfl trivial h1 (fun xs z => nomatch z)
      have r4 : Rp M K (upd H3 p (.dK (putK [] (.inr "more") (.int 1)))) (.ref p) (.dict [(.str "more", .int 1)]) := by
        have sm : upd H3 p (.dK (putK [] (.inr "more") (.int 1))) p = some (.dK [((Sum.inr "more" : Key), V.int 1)]) := upd_same
        exact .dic sm (.cons (k := .inr "more") (.int 1) .nil)
      exact go (.dict [(.str ("more" : Str), .int 1)]) _ ⟨[(("more" : Str), .int 1)], rfl, by simp, by decide, fun q hq => by
        rw [List.mem_singleton.mp hq]
        exact ⟨trivial, trivial⟩⟩ r4 m2 m3 m1 m4
  | _ =>
    refine (if_neg (fun z => by cases z)).mpr ?_
    change tB (tCB (rIsi K) (tCons (tVar 1) (tCons (tC (.ty "dict")) tNil))) [some u, some u] H2 _
    refine isl "dict" (by decide) (Wd.base M B H hs) u _ [some u, some u] H2 c2 ⟨⟨rfl, r2⟩, ⟨rfl, r2⟩, True.intro⟩ _ fun b H3 e3 hb3 => ?_
    subst hb3
    refine (if_neg (fun z => by cases z)).mpr ?_
    have e13 := e12.trans e3
    have c3 := c0.up e13
    exact go _ H3 (fine_8 hf) (Rp.up (Ex.toM e13 hs) hr') c3.box c3.al (VeryH.ex e13) fun a h z => h (e13.free z)
end
section
variable {P : Program} {w : World} {K : PySem.W.Frag} {mg : Str → Option Value} {base : Heap}
/-- two lists of one's own: so many values of ns are left at D1, the others stand at D2 -/
def Wd.mix (W : Wd) (K : PySem.W.Frag) (D1 D2 : Addr) (n1 : ¬ W.B D1) (n2 : ¬ W.B D2) (ns : List PyData) (n : Nat) : Wd where
  M := Ew.ad (Ew.ad W.M D1) D2
  B := W.B
  H0 := W.H0
  Ω := fun H => ∃ (xs ys : List V) (ds es : List PyData), H D1 = some (.lst xs) ∧ H D2 = some (.lst ys) ∧ RpA (Ew.ad (Ew.ad W.M D1) D2) K H xs ds ∧ RpA (Ew.ad (Ew.ad W.M D1) D2) K H ys es ∧ (ds ++ es).Perm ns ∧ ds.length = n
  sub := fun a h => .inl (.inl (W.sub a h))
  kept := fun e ⟨xs, ys, ds, es, h1, h2, h3, h4, h5⟩ => ⟨xs, ys, ds, es, e.keep h1 n1, e.keep h2 n2, RpA.up (e.toM fun a h => .inl (.inl (W.sub a h))) h3, RpA.up (e.toM fun a h => .inl (.inl (W.sub a h))) h4, h5⟩
section
variable {W : Wd} {Γ : Gam} {K : PySem.W.Frag} {D1 D2 : Addr} {n1 : ¬ W.B D1} {n2 : ¬ W.B D2} {ns : List PyData} {n : Nat} {R : V → Hp → Prop} {Bk Ct : Sx → Hp → Prop} {i : Nat}
theorem ty_mixL (h2 : Γ[i]? = some (some (isV (.ref D1)))) : Ty (Wd.mix W K D1 D2 n1 n2 ns n) Γ (tCB (Ew.rLen K) (tCons (tVar i) tNil)) (dt K (.int (n : Nat))) := fun σ H c g Q q => by
  obtain ⟨v, k1, k2⟩ := g.get h2
  have k2 : v = .ref D1 := k2
  subst k2
  obtain ⟨xs, ys, ds, es, x1, x2, x3, x4, x5, x6⟩ := c.own
  exact ⟨.ref D1, k1, _, n, rfl, .inl ⟨_, SqL.of x1, by rw [x3.length, x6]⟩, q _ H (Ex.refl _ _) (.int _)⟩
theorem rpA_erase {M : Addr → Prop} {H : Hp} : ∀ {xs : List V} {ds : List PyData} (k : Nat), RpA M K H xs ds → RpA M K H (xs.eraseIdx k) (ds.eraseIdx k)
  | _, _, _, .nil => .nil
  | _, _, 0, .cons _ r => r
  | _, _, k + 1, .cons h r => .cons h (rpA_erase k r)
theorem perm_turn {α : Type} {x : α} : ∀ {l : List α} {k : Nat}, l[k]? = some x → (x :: l.eraseIdx k).Perm l
  | [], _, h => by simp at h
  | y :: l, 0, h => by
    have h : y = x := by simpa using h
    rw [h]
    exact List.Perm.refl _
  | y :: l, k + 1, h => by
    have h : l[k]? = some x := by simpa using h
    exact (List.Perm.swap y x _).trans ((perm_turn h).cons y)
/-- found.append(left.pop(take(box, len(left)))) -/
theorem tys_popApp {te : TE} (h01 : W.H0 D1 = none) (h02 : W.H0 D2 = none) (d12 : D1 ≠ D2) (hl : ns.length ≤ 1000) (g2 : Γ[2]? = some (some (isV (.ref D1)))) (g3 : Γ[3]? = some (some (isV (.ref D2)))) (ht : Ty (Wd.mix W K D1 D2 n1 n2 ns (n + 1)) Γ te (digT K (n + 1))) :
    TyS (Wd.mix W K D1 D2 n1 n2 ns (n + 1)) Γ (tDrop (tBM K "list" rAppend (tVar 3) (tCons (tBM K "list" rPopAt (tVar 2) (tCons te tNil)) tNil))) (nE (Wd.mix W K D1 D2 n1 n2 ns n) Γ) R Bk Ct := fun σ H c g E dn dr db dc => by
  obtain ⟨v3, s3, e3⟩ := g.get g3
  have e3 : v3 = .ref D2 := e3
  subst e3
  obtain ⟨v2, s2, e2⟩ := g.get g2
  have e2 : v2 = .ref D1 := e2
  subst e2
  obtain ⟨xs0, ys0, ds0, es0, x01, y01, _⟩ := c.own
  refine ⟨.ref D2, s3, .inl ⟨rfl, _, SqL.of y01⟩, .ref D1, s2, .inl ⟨rfl, _, SqL.of x01⟩, ht σ H c g _ fun v H1 e1 ⟨k, hk, hv⟩ => ?_⟩
  cases hv
  have c1 := c.up e1
  obtain ⟨xs, ys, ds, es, x1, y1, x3, y3, pm, x2⟩ := c1.own
  have lx := x3.length
  have hk' : k < xs.length := by omega
  have hkd : k < ds.length := by omega
  obtain ⟨d, hd, rd⟩ := RpA.get (i := k) x3 (List.getElem?_eq_getElem hk')
  have few : es.length ≤ 1000 := by
    have z := pm.length_eq
    rw [List.length_append] at z
    omega
  refine ⟨D1, xs, (k : Int), k, xs[k], rfl, rfl, x1, by omega, by have zz := pm.length_eq; rw [List.length_append] at zz; omega, ?_, List.getElem?_eq_getElem hk', ?_⟩
  · unfold seqIndex?
    simp
    omega
  have y1' : upd H1 D1 (.lst (xs.eraseIdx k)) D2 = some (.lst ys) := by rw [upd_ne (Ne.symm d12)]; exact y1
  have p1 : Exm (Ew.ad (Ew.ad W.M D1) D2) W.B H1 (upd H1 D1 (.lst (xs.eraseIdx k))) := Exm.put (.inl (.inr rfl)) n1 x1
  have p2 : Exm (Ew.ad (Ew.ad W.M D1) D2) W.B (upd H1 D1 (.lst (xs.eraseIdx k))) (upd (upd H1 D1 (.lst (xs.eraseIdx k))) D2 (.lst (ys ++ [xs[k]]))) := Exm.put (.inr rfl) n2 y1'
  refine ⟨D2, ys, xs[k], rfl, rfl, y1', sz_lt (by rw [y3.length]; omega), ?_⟩
  have e1' : Exm (Ew.ad (Ew.ad W.M D1) D2) W.B H H1 := Ex.toM e1 fun a h => .inl (.inl (W.sub a h))
  have p12 := p1.trans p2
  have all := e1'.trans p12
  have ne1 : ∀ a, W.B a → a ≠ D1 := fun a h z => n1 (z ▸ h)
  have ne2 : ∀ a, W.B a → a ≠ D2 := fun a h z => n2 (z ▸ h)
  refine dn σ _ all ⟨⟨fun a h => ?_, fun a h => ?_, (c1.ex.mut h01).mut h02, xs.eraseIdx k, ys ++ [xs[k]], ds.eraseIdx k, es ++ [d], ?_, upd_same, RpA.up p12 (rpA_erase k x3), (RpA.up p12 y3).append (.cons (Rp.up p12 rd) .nil), ?_, ?_⟩, g.up all⟩
  · obtain ⟨zs, z1, z2⟩ := c1.box a h
    exact ⟨zs, by rw [upd_ne (ne2 a h), upd_ne (ne1 a h)]; exact z1, z2⟩
  · by_cases q2 : a = D2
    · rw [q2, upd_same]; intro z; cases z
    · rw [upd_ne q2]
      by_cases q1 : a = D1
      · rw [q1, upd_same]; intro z; cases z
      · rw [upd_ne q1]
        exact c1.al a h
  · rw [upd_ne d12]; exact upd_same
  · refine List.Perm.trans ?_ pm
    rw [← List.append_assoc]
    exact (List.perm_append_comm).trans ((show ([d] ++ (ds.eraseIdx k ++ es)).Perm (ds ++ es) from by
      rw [← List.append_assoc]
      exact (perm_turn hd).append_right es))
  · rw [List.length_eraseIdx, if_pos hkd, x2]; rfl
end
def sp_law_mixed (K : PySem.W.Frag) : Sp := spT (fun ns : List PyData => ns.length ≤ 1000) (fun ns => [bx, dt K (.list ns)]) (fun ns => exT fun ms : List PyData => gd (ms.Perm ns) (dt K (.list ms)))
theorem ok_law_mixed (T : Tx P K mg) : FnOk P w K mg base (L2.CX P w) 2 T.a_law_mixed T.f_law_mixed ["box", "items"] (sp_law_mixed K) := by
  have G_law_take := ok_law_take (w := w) (base := base) T
  have nd := sc_law_mixed.nd
  refine fn_ty T.F_law_mixed sc_law_mixed (fun x _ => rfl) fun cdv Ar outer s H E hr => ⟨_, (pss_cons (ps_par (i := 2) (j := 3) rfl nd rfl rfl (by decide) rfl rfl (pa_cons (k_list (K := K) rfl T.m_list (pa_cons (pv 1) pa_nil)) (pa_cons (pe_lst pa_nil) pa_nil)) (by rfl))
    (pss_cons (ps_for PassesOwn.never rfl (pi_range1 rfl T.m_range (pa_cons (k_len (K := K) rfl T.m_len (pa_cons (pv 2) pa_nil)) pa_nil)) (pgn 4 nd) (pss_one (ps_expr (k_append (K := K) rfl (pv 3) (pa_cons (k_popAt (K := K) rfl (pv 2) (pa_cons (pcall G_law_take (hr.mono (by decide)) T.D_law_take (pa_cons (pv 0) (pa_cons (k_len (K := K) rfl T.m_len (pa_cons (pv 2) pa_nil)) pa_nil))) pa_nil)) pa_nil)))))
    (pss_one (ps_ret (pv 3))))), fun W x hC => ?_⟩
  have hl : x.length ≤ 1000 := hC
  show TyS W [some bx, some (dt K (PyData.list x)), none, none, none] _ _ _ _ _
  refine TyS.never fun σ H c g E dn dr db dc => ?_
  have L2 : TyL W [some bx, some (dt K (PyData.list x)), none, none, none] (tLst tNil) [] := tyl_lst (Ts := []) tya_nil (by decide)
  obtain ⟨v1, s1, r1⟩ := g.get (i := 1) (T := dt K (PyData.list x)) rfl
  cases r1 with
  | @lst a0 xs _ a1 a2 a3 =>
  refine ⟨.ref a0, s1, a0, xs, rfl, .inl (SqL.of a1), fun D1 h1 => ?_⟩
  have e1 : Ex W.B H (upd H D1 (.lst xs)) := Ex.new h1
  generalize hH1 : upd H D1 (.lst xs) = H1 at e1
  have h2 : H1 D1 = some (.lst xs) := by rw [← hH1]; exact upd_same
  refine L2 σ H1 (c.up e1) (g.up e1.toW) _ fun D2 ys H2 e2 k1 k2 k3 => ⟨.ref D1, .ref D2, rfl, ?_⟩
  obtain rfl : ys = [] := List.eq_nil_of_length_eq_zero k3.length
  have hD2 : H D2 = none := e1.free k1
  have d12 : D1 ≠ D2 := ne_of_none h2 k1
  have nb1 : ¬ W.B D1 := c.nb h1
  have nb2 : ¬ W.B D2 := c.nb hD2
  have c2 := c.up (e1.trans e2)
  have x1 : H2 D1 = some (.lst xs) := e2.keep h2 nb1
  have rx : RpA (Ew.ad (Ew.ad W.M D1) D2) K H2 xs x := RpA.up ((e1.trans e2).toM fun a h => .inl (.inl (W.sub a h))) (RpA.weak (show H D2 = none from hD2) (RpA.weak h1 a3))
  have al : ∀ a, (Ew.ad (Ew.ad W.M D1) D2) a → H2 a ≠ none := fun a z => by
    rcases z with (z | z) | z
    · exact c2.al a z
    · rw [z, x1]; intro q; cases q
    · rw [z, k2]; intro q; cases q
  have cm : Cxt (Wd.mix W K D1 D2 nb1 nb2 x x.length) H2 := ⟨c2.box, al, c2.ex, xs, [], x, [], x1, k2, rx, .nil, by rw [List.append_nil], rfl⟩
  have g1 : EnvL (Ew.ad (Ew.ad W.M D1) D2) W.B [some bx, some (dt K (PyData.list x)), none, none, none] σ H2 := (EnvL.weak (show H D2 = none from hD2) (EnvL.weak h1 g)).up ((e1.trans e2).toM fun a h => .inl (.inl (W.sub a h)))
  have g2 : EnvL (Ew.ad (Ew.ad W.M D1) D2) W.B [some bx, some (dt K (PyData.list x)), some (isV (.ref D1)), some (isV (.ref D2)), none] ((σ.set 2 (some (.ref D1))).set 3 (some (.ref D2))) H2 := EnvL.set (T := isV (.ref D2)) (i := 3) rfl (EnvL.set (T := isV (.ref D1)) (i := 2) rfl g1)
  have h01 : W.H0 D1 = none := c.ex.free h1
  have h02 : W.H0 D2 = none := c.ex.free hD2
  have nm2 : ¬ W.M D2 := c.nm hD2
  have tail : TyS (Wd.mix W K D1 D2 nb1 nb2 x x.length) [some bx, some (dt K (PyData.list x)), some (isV (.ref D1)), some (isV (.ref D2)), none] (tSeq (tFor (iRng1 (tCons (tCB (Ew.rLen K) (tCons (tVar 2) tNil)) tNil)) (gName 4) (tDrop (tBM K "list" rAppend (tVar 3) (tCons (tBM K "list" rPopAt (tVar 2) (tCons (tCall (sp_law_take K) [] E0 (tCons (tVar 0) (tCons (tCB (Ew.rLen K) (tCons (tVar 2) tNil)) tNil))) tNil)) tNil)))) (tRet (tVar 3))) noN (rW W (exT fun ms : List PyData => gd (ms.Perm x) (dt K (.list ms)))) noN noN := by
    refine tys_seq (N := nE (Wd.mix W K D1 D2 nb1 nb2 x 0) [some bx, none, some (isV (.ref D1)), some (isV (.ref D2)), none]) ?_ fun σ H n => ⟨Wd.mix W K D1 D2 nb1 nb2 x 0, _, ⟨rfl, rfl⟩, n, fun σ H c g D _ dr _ _ => ?_⟩
    · have hi : TyI (Wd.mix W K D1 D2 nb1 nb2 x x.length) [some bx, some (dt K (PyData.list x)), some (isV (.ref D1)), some (isV (.ref D2)), none] (iRng1 (tCons (tCB (Ew.rLen K) (tCons (tVar 2) tNil)) tNil)) ((List.range x.length).map fun i => dt K (.int (i : Nat))) := tyi_rng (tya_cons (ty_mixL rfl) tya_nil) (by omega)
      refine tys_for (Wi := fun i (_ : Unit) => Wd.mix W K D1 D2 nb1 nb2 x (x.length - i)) (Γi := fun _ (_ : Unit) => [some bx, none, some (isV (.ref D1)), some (isV (.ref D2)), none]) () hi (fun _ _ => ⟨rfl, rfl⟩) (fun σ H g => ⟨g.1, EnvL.less (by exact ⟨fun _ _ _ _ h => h, fun _ _ _ _ h => h, fun _ _ _ _ h => h, True.intro⟩) g.2⟩) (fun i T' _ hT => ?_) (fun _ σ H g => ?_)
      · obtain ⟨hi', rfl⟩ := range_map_get hT
        refine ⟨_, tyg_name 4, ?_⟩
        obtain ⟨m, hm⟩ : ∃ m, x.length - i = m + 1 := ⟨x.length - i - 1, by omega⟩
        have hm2 : x.length - (i + 1) = m := by omega
        rw [hm, hm2]
        show TyS _ [some bx, none, some (isV (.ref D1)), some (isV (.ref D2)), some (dt K (.int (i : Nat)))] _ _ _ _ _
        exact TyS.imp (tys_popApp h01 h02 d12 hl rfl rfl (ty_call (m + 1) ⟨by omega, by omega⟩ (tya_cons (ty_var rfl) (tya_cons (ty_mixL rfl) tya_nil)))) fun σ H n => ⟨(), n.1, EnvL.less (by exact ⟨fun _ _ _ _ h => h, fun _ _ _ _ h => h, fun _ _ _ _ h => h, True.intro⟩) n.2⟩
      · rw [List.length_map, List.length_range, Nat.sub_self] at g
        exact g
    · obtain ⟨v, s3, e3⟩ := g.get (i := 3) (T := isV (.ref D2)) rfl
      have e3 : v = .ref D2 := e3
      subst e3
      obtain ⟨xs2, ys2, ds2, es2, x12, y12, _, y32, pm, l2⟩ := c.own
      have z2 : ds2 = [] := List.eq_nil_of_length_eq_zero l2
      rw [z2, List.nil_append] at pm
      exact ⟨.ref D2, s3, dr _ H ⟨c.ex, es2, pm, .lst y12 nm2 (RpA.drop (RpA.drop y32))⟩⟩
  exact tail _ H2 cm g2 E (fun _ _ _ z => z.elim) dr (fun _ _ _ z => z.elim) fun _ _ _ z => z.elim
end
section
variable {P : Program} {w : World} {K : PySem.W.Frag} {mg : Str → Option Value} {base : Heap}
def sp_law_pick (K : PySem.W.Frag) : Sp := spT (fun ds : List PyData => 0 < ds.length ∧ ds.length ≤ 1000) (fun ds => [bx, dt K (.list ds)]) (fun ds => exT fun d : PyData => gd (d ∈ ds) (dt K d))
theorem ok_law_pick (T : Tx P K mg) : FnOk P w K mg base (L2.CX P w) 2 T.a_law_pick T.f_law_pick ["box", "items"] (sp_law_pick K) := by
  have G_law_take := ok_law_take (w := w) (base := base) T
  have nd := sc_law_pick.nd
  refine fn_ty T.F_law_pick sc_law_pick (fun x _ => rfl) fun cdv Ar outer s H E hr => ⟨_, (pss_one (ps_ret (pe_ix (k_ix (K := K) rfl) (pv 1) (pcall G_law_take (hr.mono (by decide)) T.D_law_take (pa_cons (pv 0) (pa_cons (k_len (K := K) rfl T.m_len (pa_cons (pv 1) pa_nil)) pa_nil))) (fun _ _ => rfl)))), fun W x hC => ?_⟩
  obtain ⟨h0, h1⟩ : 0 < x.length ∧ x.length ≤ 1000 := hC
  refine TyS.never (tys_retW (ty_op (ty_var rfl) (ty_call x.length ⟨h0, by omega⟩ (tya_cons (ty_var rfl) (tya_cons (ty_cb (tya_cons (ty_var rfl) tya_nil) cbt_lenL) tya_nil))) (opt_exR fun k => OpT.gdr fun hk => fun u v H c hu hv Q q => ?_)))
  exact opt_ixL (atI_nat (List.getElem?_eq_getElem hk)) u v H c hu hv Q fun w H1 e z => q w H1 e ⟨x[k], List.getElem_mem hk, z⟩
end
section
variable {P : Program} {w : World} {K : PySem.W.Frag} {mg : Str → Option Value} {base : Heap}
/-- all that can be put together, one out of each -/
def lotsI (ls : List (List Int)) : List (List Int) := ls.foldl (fun found some => found.flatMap fun lot => some.map fun one => lot ++ [one]) [[]]
def linesD (ls : List (List Int)) : PyData := .list (ls.map linD)
structure LotC (ls : List (List Int)) : Prop where
  few : ls.length ≤ 2
  each : ∀ l ∈ ls, l.length ≤ 7
theorem lots_len {ls : List (List Int)} (h : ∀ l ∈ ls, l.length ≤ 7) : ∀ i, (∀ t ∈ lotsI (ls.take i), t.length ≤ i) ∧ (lotsI (ls.take i)).length ≤ 7 ^ i := by
  intro i
  induction i with
  | zero => exact ⟨fun t ht => by rw [show t = [] from List.mem_singleton.mp ht]; exact Nat.le_refl 0, Nat.le_refl 1⟩
  | succ i ih =>
    rw [List.take_add_one]
    cases e : ls[i]? with
    | none =>
      show (∀ t ∈ lotsI (ls.take i ++ []), t.length ≤ i + 1) ∧ (lotsI (ls.take i ++ [])).length ≤ 7 ^ (i + 1)
      rw [List.append_nil]
      exact ⟨fun t ht => Nat.le_succ_of_le (ih.1 t ht), Nat.le_trans ih.2 (Nat.pow_le_pow_right (by decide) (by omega))⟩
    | some s =>
      have hs := h s (List.mem_of_getElem? e)
      show (∀ t ∈ lotsI (ls.take i ++ [s]), t.length ≤ i + 1) ∧ (lotsI (ls.take i ++ [s])).length ≤ 7 ^ (i + 1)
      have e2 : lotsI (ls.take i ++ [s]) = (lotsI (ls.take i)).flatMap fun lot => s.map fun one => lot ++ [one] := by unfold lotsI; rw [List.foldl_append]; rfl
      rw [e2]
      refine ⟨fun t ht => ?_, ?_⟩
      · obtain ⟨lot, h1, h2⟩ := List.mem_flatMap.mp ht
        obtain ⟨one, _, rfl⟩ := List.mem_map.mp h2
        rw [List.length_append]
        have := ih.1 lot h1
        simp
        omega
      · have gen : ∀ l : List (List Int), (l.flatMap fun lot => s.map fun one => lot ++ [one]).length ≤ l.length * 7 := by
          intro l
          induction l with
          | nil => exact Nat.le_refl 0
          | cons a l ih2 =>
            rw [List.flatMap_cons, List.length_append, List.length_map, List.length_cons, Nat.succ_mul]
            omega
        rw [Nat.pow_succ]
        exact Nat.le_trans (gen _) (Nat.mul_le_mul_right 7 ih.2)
theorem LotC.at {ls : List (List Int)} (h : LotC ls) {i : Nat} (hi : i ≤ 2) : (lotsI (ls.take i)).length ≤ 49 ∧ ∀ t ∈ lotsI (ls.take i), t.length ≤ 2 := by
  obtain ⟨h1, h2⟩ := lots_len h.each i
  refine ⟨Nat.le_trans h2 (Nat.le_trans (Nat.pow_le_pow_right (by decide) hi) (by decide)), fun t ht => Nat.le_trans (h1 t ht) hi⟩
theorem tups_app (a b : List (List Int)) : (a ++ b).map (fun t => dt K (intsD t)) = a.map (fun t => dt K (intsD t)) ++ b.map fun t => dt K (intsD t) := List.map_append
def sp_law_lots (K : PySem.W.Frag) : Sp := spT (fun ls : List (List Int) => LotC ls) (fun ls => [dt K (linesD ls)]) (fun ls => dt K (tupsL (lotsI ls)))
theorem ok_law_lots (T : Tx P K mg) : FnOk P w K mg base (L2.CX P w) 1 T.a_law_lots T.f_law_lots ["lists"] (sp_law_lots K) := by
  have nd := sc_law_lots.nd
  refine fn_ty T.F_law_lots sc_law_lots (fun x _ => rfl) fun cdv Ar outer s H E hr => ⟨_, (pss_cons (pset 1 nd (pe_lst (pa_cons (pe_tup pa_nil) pa_nil)))
    (pss_cons (ps_for PassesOwn.never rfl (k_ilist (K := K) rfl (pv 0)) (pgn 2 nd) (pss_cons (pset 3 nd (pe_lst pa_nil))
    (pss_cons (ps_for PassesOwn.never rfl (k_ilist (K := K) rfl (pv 1)) (pgn 4 nd) (pss_one (ps_expr (k_extend (K := K) rfl (pv 3) (pa_cons (plc [("one", 5)] nd (k_ilist (K := K) rfl (pv 2)) (fun _ _ _ _ _ => (pgn 5 nd)) (fun _ _ _ _ _ => pts_nil) (fun _ _ _ _ _ => (pe_op (k_add (K := K) rfl) (pv 4) (pe_tup (pa_cons (pv 5) pa_nil)))) (by kernel_rfl)) pa_nil)))))
    (pss_one (pset 1 nd (pv 3))))))
    (pss_one (ps_ret (pv 1))))), fun W x hC => ?_⟩
  have hc : LotC x := hC
  show TyS W [some (dt K (linesD x)), none, none, none, none, none] _ _ _ _ _
  refine tys_seqE (W' := W) (Γ' := [some (dt K (linesD x)), some (dt K (tupsL (lotsI (x.take 0)))), none, none, none, none]) (tys_set (ty_lstD (K := K) (ds := [.tuple []]) (tya_cons (ty_tupD (ds := []) tya_nil (by decide)) tya_nil) (by decide))) ?_
  have hi : TyI W [some (dt K (linesD x)), some (dt K (tupsL (lotsI (x.take 0)))), none, none, none, none] (iList K (tVar 0)) (x.map fun l => dt K (linD l)) := tyi_lstA (f := linD) (ty_var rfl)
  refine tys_seqE (W' := W) (Γ' := [some (dt K (linesD x)), some (dt K (tupsL (lotsI x))), none, none, none, none]) (tys_for (fun _ _ => W) (fun i (_ : Unit) => [some (dt K (linesD x)), some (dt K (tupsL (lotsI (x.take i)))), none, none, none, none]) () hi (fun _ _ => Wd.Like.refl W) (fun σ H g => g) (fun i T' _ hT => ?_) fun _ σ H g => by
      rw [List.length_map, List.take_length] at g
      exact g) (TyS.never (tys_retW (ty_var rfl)))
  obtain ⟨s, e, rfl⟩ := map_get hT
  have hs := hc.each s (List.mem_of_getElem? e)
  have hil := (List.getElem?_eq_some_iff.mp e).1
  have hi2 : i ≤ 2 := by have := hc.few; omega
  obtain ⟨c1, c2⟩ := hc.at hi2
  have nxt : lotsI (x.take (i + 1)) = (lotsI (x.take i)).flatMap fun lot => s.map fun one => lot ++ [one] := by
    rw [List.take_add_one, e]
    unfold lotsI
    rw [Option.toList_some, List.foldl_append]; rfl
  have c3 : (lotsI (x.take (i + 1))).length ≤ 343 := Nat.le_trans (lots_len hc.each (i + 1)).2 (Nat.le_trans (Nat.pow_le_pow_right (by decide) (show i + 1 ≤ 3 by omega)) (by decide))
  generalize lotsI (x.take i) = cur at c1 c2 nxt ⊢
  rw [nxt] at c3 ⊢
  refine ⟨_, tyg_name 2, ?_⟩
  show TyS W [some (dt K (linesD x)), some (dt K (tupsL cur)), some (dt K (linD s)), none, none, none] _ _ _ _ _
  refine tys_ownR (Ts := []) (T := fun D => isV (.ref D)) (TyL.tyr (Ts := []) (tyl_lst tya_nil (by decide))) (fun H0 v H c e z => ?_) fun D nb nm => ?_
  · obtain ⟨p, xs, rfl, h1, h2, h3⟩ := z
    refine ⟨p, xs, h1, h2, ?_, rfl⟩
    match xs, h3 with
    | [], _ => exact True.intro
  · show TyS _ [some (dt K (linesD x)), some (dt K (tupsL cur)), some (dt K (linD s)), some (isV (.ref D)), none, none] _ _ _ _ _
    have hj : TyI (W.own D nb []) [some (dt K (linesD x)), some (dt K (tupsL cur)), some (dt K (linD s)), some (isV (.ref D)), none, none] (iList K (tVar 1)) (cur.map fun t => dt K (intsD t)) := tyi_lstA (f := intsD) (ty_var rfl)
    refine tys_seqE (W' := W.own D nb ((cur.flatMap fun lot => s.map fun one => lot ++ [one]).map fun t => dt K (intsD t))) (Γ' := [some (dt K (linesD x)), some (dt K (tupsL cur)), some (dt K (linD s)), some (isV (.ref D)), none, none]) (tys_for (fun j (_ : Unit) => W.own D nb (((cur.take j).flatMap fun lot => s.map fun one => lot ++ [one]).map fun t => dt K (intsD t))) (fun _ (_ : Unit) => [some (dt K (linesD x)), some (dt K (tupsL cur)), some (dt K (linD s)), some (isV (.ref D)), none, none]) () hj (fun _ _ => ⟨rfl, rfl⟩) (fun σ H g => g) (fun j T' _ hT => ?_) fun _ σ H g => by
        rw [List.length_map, List.take_length] at g
        exact g) ?_
    · obtain ⟨lot, el, rfl⟩ := map_get hT
      have hlot := c2 lot (List.mem_of_getElem? el)
      have hjl := (List.getElem?_eq_some_iff.mp el).1
      refine ⟨_, tyg_name 4, ?_⟩
      show TyS _ [some (dt K (linesD x)), some (dt K (tupsL cur)), some (dt K (linD s)), some (isV (.ref D)), some (dt K (intsD lot)), none] _ _ _ _ _
      have step : (cur.take (j + 1)).flatMap (fun lot => s.map fun one => lot ++ [one]) = (cur.take j).flatMap (fun lot => s.map fun one => lot ++ [one]) ++ s.map fun one => lot ++ [one] := by
        rw [List.take_add_one, el, Option.toList_some, List.flatMap_append]
        simp
      have small : ((cur.take j).flatMap fun lot => s.map fun one => lot ++ [one]).length ≤ 1000 := by
        have gen : ∀ l : List (List Int), (l.flatMap fun lot => s.map fun one => lot ++ [one]).length ≤ l.length * 7 := by
          intro l
          induction l with
          | nil => exact Nat.le_refl 0
          | cons a l ih2 =>
            rw [List.flatMap_cons, List.length_append, List.length_map, List.length_cons, Nat.succ_mul]
            omega
        have := gen (cur.take j)
        rw [List.length_take] at this
        omega
      have lc : TyL (W.own D nb (((cur.take j).flatMap fun lot => s.map fun one => lot ++ [one]).map fun t => dt K (intsD t))) [some (dt K (linesD x)), some (dt K (tupsL cur)), some (dt K (linD s)), some (isV (.ref D)), some (dt K (intsD lot)), none] (tLc (iList K (tVar 2)) (gName 5) tYes (tOp (rAddA K) (tVar 4) (tTup (tCons (tVar 5) tNil))) [5]) (s.map fun one => dt K (intsD (lot ++ [one]))) :=
        tyl_map (fun n : Int => dt K (.int n)) (fun one => dt K (intsD (lot ++ [one]))) (tyi_lstA (f := .int) (ty_var rfl)) (by omega) (by decide) fun W' one _ => Ty.is (ty_op (ty_var rfl) (ty_tupD (ds := [.int one]) (tya_cons (ty_var rfl) tya_nil) (by show 1 ≤ 1000000; decide)) (opt_catT (ds := lot.map .int) (es := [.int one]) (by rw [List.length_map]; simp; omega))) (by unfold intsD; rw [List.map_append]; rfl)
      have lc' : TyL (W.own D nb (((cur.take j).flatMap fun lot => s.map fun one => lot ++ [one]).map fun t => dt K (intsD t))) [some (dt K (linesD x)), some (dt K (tupsL cur)), some (dt K (linD s)), some (isV (.ref D)), some (dt K (intsD lot)), none] (tLc (iList K (tVar 2)) (gName 5) tYes (tOp (rAddA K) (tVar 4) (tTup (tCons (tVar 5) tNil))) [5]) ((s.map fun one => lot ++ [one]).map fun t => dt K (intsD t)) := by rw [List.map_map]; exact lc
      refine (tys_extend (i := 3) rfl lc' (by rw [List.length_map, List.length_map, List.length_map]; omega)).imp fun σ H g => ⟨(), ?_⟩
      rw [step, List.map_append]
      exact ⟨g.1, EnvL.less (by exact ⟨fun _ _ _ _ h => h, fun _ _ _ _ h => h, fun _ _ _ _ h => h, fun _ _ _ _ h => h, trivial⟩) g.2⟩
    · refine tys_finN (i := 3) rfl nm ?_
      show TyS W [some (dt K (linesD x)), some (dt K (tupsL cur)), some (dt K (linD s)), some (lstT ((cur.flatMap fun lot => s.map fun one => lot ++ [one]).map fun t => dt K (intsD t))), none, none] _ _ _ _ _
      refine (tys_set (i := 1) (T := dt K (tupsL (cur.flatMap fun lot => s.map fun one => lot ++ [one]))) ((ty_var rfl).sub fun v H _ z => ?_)).imp fun σ H g => ⟨(), g.1, EnvL.less (by exact ⟨fun _ _ _ _ h => h, fun _ _ _ _ h => h, trivial⟩) g.2⟩
      exact lstT_data (ds := (cur.flatMap fun lot => s.map fun one => lot ++ [one]).map intsD) (by rw [List.map_map]; exact z)
end
section
variable {P : Program} {w : World} {K : PySem.W.Frag} {mg : Str → Option Value} {base : Heap}
def sp_law_over (K : PySem.W.Frag) : Sp := spT (fun x : Int × Nat => bd 200 x.1 ∧ x.2 ≤ 6) (fun x => [dt K (.int x.1), dt K (.int (x.2 : Nat))]) (fun x => dt K (.int (chI x.1 x.2)))
theorem ok_law_over (T : Tx P K mg) : FnOk P w K mg base (L2.CX P w) 1 T.a_law_over T.f_law_over ["number", "degree"] (sp_law_over K) := by
  have nd := sc_law_over.nd
  refine fn_ty T.F_law_over sc_law_over (fun x _ => rfl) fun cdv Ar outer s H E hr => ⟨_, (pss_cons (pset 2 nd pe_int)
    (pss_cons (ps_for PassesOwn.never rfl (pi_range1 rfl T.m_range (pa_cons (pv 1) pa_nil)) (pgn 3 nd) (pss_one (pset 2 nd (pe_op op_divA (pe_op op_mulA (pv 2) (pe_op op_sub (pv 0) (pv 3))) (pe_op (k_add (K := K) rfl) (pv 3) pe_int)))))
    (pss_one (ps_ret (pv 2))))), fun W x hC => ?_⟩
  obtain ⟨n, k⟩ := x
  obtain ⟨h1, h2⟩ : bd 200 n ∧ k ≤ 6 := hC
  refine tys_seqE (tys_set (ty_int (K := K))) ?_
  show TyS W [some (dt K (.int n)), some (dt K (.int (k : Nat))), some (dt K (.int 1)), none] _ _ _ _ _
  refine tys_seqE (W' := W) (Γ' := [some (dt K (.int n)), some (dt K (.int (k : Nat))), some (dt K (.int (chI n k))), none]) (tys_for (fun _ _ => W) (fun i (_ : Unit) => [some (dt K (.int n)), some (dt K (.int (k : Nat))), some (dt K (.int (chI n i))), none]) () (tyi_rng (n := k) (tya_cons (ty_var rfl) tya_nil) (by omega)) (fun _ _ => Wd.Like.refl W) (fun σ H g => ⟨g.1, EnvL.less (by rw [chI_0]; exact ⟨fun _ _ _ _ h => h, fun _ _ _ _ h => h, fun _ _ _ _ h => h, trivial⟩) g.2⟩) (fun i T' _ hT => ?_) fun _ σ H g => by
      rw [List.length_map, List.length_range] at g
      exact g) (TyS.never (tys_retW (ty_var rfl)))
  obtain ⟨hi, rfl⟩ := range_map_get hT
  refine ⟨_, tyg_name 3, ?_⟩
  show TyS W [some (dt K (.int n)), some (dt K (.int (k : Nat))), some (dt K (.int (chI n i))), some (dt K (.int (i : Nat)))] _ _ _ _ _
  have hb : bd 201 (n - (i : Int)) := by
    show (n - (i : Int)).natAbs < 2 ^ 201
    have z : n.natAbs < 2 ^ 200 := h1
    have z2 : (2 : Nat) ^ 201 = 2 ^ 200 + 2 ^ 200 := by decide +kernel
    have z3 : (100 : Nat) < 2 ^ 200 := by decide +kernel
    omega
  exact (tys_set (i := 2) (Ty.is (e := .int (chI n (i + 1))) (ty_op (ty_op (ty_var rfl) (ty_op (ty_var rfl) (ty_var rfl) opt_sub) (opt_mulW (bd.mul_ok (chI_bd h1 (by omega)) hb (by omega)))) (ty_op (ty_var rfl) ty_int opt_add) (opt_div (bd.div_ok (by omega) (show bd 200 ((i : Int) + 1) from bd_small (by omega)) (by decide)))) (by rw [chI_turn]))).imp fun σ H g => ⟨(), g.1, EnvL.less (by exact ⟨fun _ _ _ _ h => h, fun _ _ _ _ h => h, fun _ _ _ _ h => h, trivial⟩) g.2⟩
end
section
variable {P : Program} {w : World} {K : PySem.W.Frag} {mg : Str → Option Value} {base : Heap}
/-- a number of a term -/
def Whl (i : Int) : Prop := i ≠ 0 ∧ bd 200 i
theorem bd_40 {i : Int} (h : i.natAbs ≤ 10 ^ 41) : bd 200 i := by
  have z : (10 : Nat) ^ 41 < 2 ^ 200 := by decide +kernel
  exact Nat.lt_of_le_of_lt h z
def sp_law_whole (K : PySem.W.Frag) : Sp := spT (fun _ : Unit => True) (fun _ => [bx]) (fun _ => inT K Whl)
theorem ok_law_whole (T : Tx P K mg) : FnOk P w K mg base (L2.CX P w) 2 T.a_law_whole T.f_law_whole ["box"] (sp_law_whole K) := by
  have G_law_take := ok_law_take (w := w) (base := base) T
  have nd := sc_law_whole.nd
  refine fn_ty T.F_law_whole sc_law_whole (fun x _ => rfl) fun cdv Ar outer s H E hr => ⟨_, (pss_cons (pset 1 nd (pcall G_law_take (hr.mono (by decide)) T.D_law_take (pa_cons (pv 0) (pa_cons pe_int pa_nil))))
    (pss_cons (pset 2 nd (pe_ifExp (pt_cmpR op_lt (pv 1) pe_int (nomark _)) (pe_op (k_add (K := K) rfl) pe_int (pcall G_law_take (hr.mono (by decide)) T.D_law_take (pa_cons (pv 0) (pa_cons pe_int pa_nil)))) (pe_ifExp (pt_cmpR (k_eq (K := K) rfl hr.units) (pv 1) pe_int (nomark _)) (pe_op (k_add (K := K) rfl) (pe_op op_pow pe_int pe_int) (pe_op op_mulA (pcall G_law_take (hr.mono (by decide)) T.D_law_take (pa_cons (pv 0) (pa_cons (pe_op op_pow pe_int pe_int) pa_nil))) (pe_op op_pow pe_int pe_int))) (pe_op (k_add (K := K) rfl) pe_int (pcall G_law_take (hr.mono (by decide)) T.D_law_take (pa_cons (pv 0) (pa_cons (pe_op op_pow pe_int pe_int) pa_nil)))))))
    (pss_one (ps_ret (pe_op op_mulA (pv 2) (pe_ix (k_ix (K := K) rfl) (pe_lst (pa_cons pe_int (pa_cons (pe_un un_neg pe_int) pa_nil))) (pcall G_law_take (hr.mono (by decide)) T.D_law_take (pa_cons (pv 0) (pa_cons pe_int pa_nil))) (fun _ _ => rfl))))))), fun W x hC => ?_⟩
  have dig : ∀ (W' : Wd) (Γ : Gam) (te : TE) (n : Nat), Γ[0]? = some (some bx) → 0 < n → n ≤ 1000000000 → Ty W' Γ te (dt K (.int (n : Nat))) → Ty W' Γ (tCall (sp_law_take K) [] E0 (tCons (tVar 0) (tCons te tNil))) (inT K fun i => 0 ≤ i ∧ i < n) := fun W' Γ te n h h0 h1 ht => dig_in (ty_call n ⟨h0, h1⟩ (tya_cons (ty_var h) (tya_cons ht tya_nil)))
  refine tys_seqE (tys_set (T := inT K fun i => 0 ≤ i ∧ i < (8 : Nat)) (dig _ _ _ 8 rfl (by decide) (by decide) (Ty.is ty_int rfl))) ?_
  refine TyS.openX (n := 1) rfl fun way => TyS.openG (n := 1) rfl fun hw => ?_
  show TyS W [some bx, some (dt K (.int way)), none] _ _ _ _ _
  have one : ∀ (te : TE) (n : Nat), Ty W [some bx, some (dt K (.int way)), none] te (dt K (.int (n : Nat))) → 0 < n → n ≤ 1000000000 → Ty W [some bx, some (dt K (.int way)), none] (tOp (rAddA K) (tC (.int 1)) (tCall (sp_law_take K) [] E0 (tCons (tVar 0) (tCons te tNil)))) (inT K fun i => 0 < i ∧ i ≤ 10 ^ 41) := fun te n ht h0 h1 => ty_addX (ty_in (φ := fun i => i = 1) ty_int rfl) (dig _ _ _ n rfl h0 h1 ht) fun i j hi hj => by omega
  refine tys_seqE (tys_set (T := inT K fun i => 0 < i ∧ i ≤ 10 ^ 41) (ty_if (φ := fun _ => True) ((tt_test (ty_op (ty_var rfl) ty_int opt_lt)).sub fun _ _ => trivial) (fun _ => one _ 9 (Ty.is ty_int rfl) (by decide) (by decide)) fun _ => ty_if (φ := fun _ => True) ((tt_test (ty_op (ty_var rfl) ty_int opt_eqI)).sub fun _ _ => trivial) (fun _ => ?_) fun _ => one _ 1000000 (Ty.is (ty_op ty_int ty_int (opt_pow ⟨by decide, by decide, by decide⟩)) (congrArg PyData.int (by decide))) (by decide) (by decide))) ?_
  · refine ty_addX (φ := fun i => i = 10 ^ 39) (ψ := fun i => 0 ≤ i ∧ i ≤ 10 ^ 40) (ty_in (ty_op ty_int ty_int (opt_pow ⟨by decide, by decide, by decide⟩)) (by decide)) (ty_mulX (φ := fun i => 0 ≤ i ∧ i < (1000000000 : Nat)) (ψ := fun i => i = 10 ^ 20) (dig _ _ _ 1000000000 rfl (by decide) (by decide) (Ty.is (ty_op ty_int ty_int (opt_pow ⟨by decide, by decide, by decide⟩)) (congrArg PyData.int (by decide)))) (ty_in (ty_op ty_int ty_int (opt_pow ⟨by decide, by decide, by decide⟩)) (by decide)) fun i j hi hj => ⟨.inl ⟨by omega, by omega⟩, ?_⟩) fun i j hi hj => ?_
    · subst hj
      omega
    · subst hi
      omega
  · show TyS W [some bx, some (dt K (.int way)), some (inT K fun i => 0 < i ∧ i ≤ 10 ^ 41)] _ _ _ _ _
    refine TyS.never (tys_retW (ty_mulX (ψ := fun j => j = 1 ∨ j = -1) (ty_var rfl) (ty_pickX (n := 2) (tya_cons (ty_in ty_int (.inl rfl)) (tya_cons (ty_in (ty_un ty_int unt_neg) (.inr rfl)) tya_nil)) (ty_call 2 ⟨by decide, by decide⟩ (tya_cons (ty_var rfl) (tya_cons (Ty.is ty_int rfl) tya_nil))) (by decide)) fun i j hi hj => ?_))
    rcases hj with rfl | rfl
    · exact ⟨.inr ⟨by decide, by decide⟩, by omega, bd_40 (by omega)⟩
    · exact ⟨.inr ⟨by decide, by decide⟩, by omega, bd_40 (by omega)⟩
end
section
variable {P : Program} {w : World} {K : PySem.W.Frag} {mg : Str → Option Value} {base : Heap}
/-- the numbers for the items -/
def Itm (i : Int) : Prop := bd 200 i
def sp_law_items (K : PySem.W.Frag) : Sp := spT (fun n : Nat => n ≤ 2) (fun n => [bx, dt K (.int (n : Nat))]) (fun n => exT fun ns : List Int => gd (ns.length = n ∧ ∀ i ∈ ns, bd 200 i) (dt K (intsD ns)))
theorem ok_law_items (T : Tx P K mg) : FnOk P w K mg base (L2.CX P w) 2 T.a_law_items T.f_law_items ["box", "items"] (sp_law_items K) := by
  have G_law_take := ok_law_take (w := w) (base := base) T
  have nd := sc_law_items.nd
  refine fn_ty T.F_law_items sc_law_items (fun x _ => rfl) fun cdv Ar outer s H E hr => ⟨_, (pss_cons (pset 2 nd (pe_lst pa_nil))
    (pss_cons (ps_for PassesOwn.never rfl (pi_range1 rfl T.m_range (pa_cons (pv 1) pa_nil)) (pgn 3 nd) (pss_cons (pset 4 nd (pcall G_law_take (hr.mono (by decide)) T.D_law_take (pa_cons (pv 0) (pa_cons pe_int pa_nil))))
    (pss_one (ps_expr (k_append (K := K) rfl (pv 2) (pa_cons (pe_ifExp (pt_cmpR op_lt (pv 4) pe_int (nomark _)) (pcall G_law_take (hr.mono (by decide)) T.D_law_take (pa_cons (pv 0) (pa_cons pe_int pa_nil))) (pe_ifExp (pt_cmpR (k_eq (K := K) rfl hr.units) (pv 4) pe_int (nomark _)) (pe_op op_sub pe_int (pcall G_law_take (hr.mono (by decide)) T.D_law_take (pa_cons (pv 0) (pa_cons pe_int pa_nil)))) (pe_op op_mulA (pe_op (k_add (K := K) rfl) (pe_op op_pow pe_int pe_int) (pcall G_law_take (hr.mono (by decide)) T.D_law_take (pa_cons (pv 0) (pa_cons (pe_op op_pow pe_int pe_int) pa_nil)))) (pe_ix (k_ix (K := K) rfl) (pe_lst (pa_cons pe_int (pa_cons (pe_un un_neg pe_int) pa_nil))) (pcall G_law_take (hr.mono (by decide)) T.D_law_take (pa_cons (pv 0) (pa_cons pe_int pa_nil))) (fun _ _ => rfl))))) pa_nil))))))
    (pss_one (ps_ret (k_tuple (K := K) rfl T.m_tuple (pa_cons (pv 2) pa_nil)))))), fun W x hC => ?_⟩
  have hn : x ≤ 2 := hC
  have dig : ∀ (W' : Wd) (Γ : Gam) (te : TE) (n : Nat), Γ[0]? = some (some bx) → 0 < n → n ≤ 1000000000 → Ty W' Γ te (dt K (.int (n : Nat))) → Ty W' Γ (tCall (sp_law_take K) [] E0 (tCons (tVar 0) (tCons te tNil))) (inT K fun i => 0 ≤ i ∧ i < n) := fun W' Γ te n h h0 h1 ht => dig_in (ty_call n ⟨h0, h1⟩ (tya_cons (ty_var h) (tya_cons ht tya_nil)))
  show TyS W [some bx, some (dt K (.int (x : Nat))), none, none, none] _ _ _ _ _
  refine TyS.never (tys_own (tyl_lst (Ts := []) tya_nil (by decide)) fun D nb nm => ?_)
  show TyS (W.own D nb []) [some bx, some (dt K (.int (x : Nat))), some (isV (.ref D)), none, none] _ _ _ _ _
  refine tys_seqX (α := { l : List Int // l.length = x ∧ ∀ i ∈ l, bd 200 i }) (W' := fun l => W.own D nb (l.1.map fun i => dt K (.int i))) (Γ' := fun _ => [some bx, some (dt K (.int (x : Nat))), some (isV (.ref D)), none, none]) (tys_forP (α := List Int) (fun i l => l.length = i ∧ ∀ j ∈ l, bd 200 j) (fun _ l => W.own D nb (l.map fun i => dt K (.int i))) (fun _ _ => [some bx, some (dt K (.int (x : Nat))), some (isV (.ref D)), none, none]) [] ⟨rfl, fun _ z => by cases z⟩ (tyi_rng (n := x) (tya_cons (ty_var rfl) tya_nil) (by omega)) (fun _ _ => ⟨rfl, rfl⟩) (fun σ H g => g) (fun i T' l hT hp => ?_) fun l σ H hp g => ⟨⟨l, by rw [List.length_map, List.length_range] at hp; exact hp⟩, g⟩) (fun l => ?_) fun _ => ⟨rfl, rfl⟩
  · obtain ⟨hi, rfl⟩ := range_map_get hT
    refine ⟨_, tyg_name 3, ?_⟩
    show TyS _ [some bx, some (dt K (.int (x : Nat))), some (isV (.ref D)), some (dt K (.int (i : Nat))), none] _ _ _ _ _
    refine tys_seqE (tys_set (T := inT K fun i => 0 ≤ i ∧ i < (4 : Nat)) (dig _ _ _ 4 rfl (by decide) (by decide) (Ty.is ty_int rfl))) ?_
    refine TyS.openX (n := 4) rfl fun way => TyS.openG (n := 4) rfl fun hw => ?_
    show TyS _ [some bx, some (dt K (.int (x : Nat))), some (isV (.ref D)), some (dt K (.int (i : Nat))), some (dt K (.int way))] _ _ _ _ _
    refine (tys_appendX (φ := fun j : Int => bd 200 j) (A := fun j => dt K (.int j)) (i := 2) rfl (ty_if (φ := fun _ => True) ((tt_test (ty_op (ty_var rfl) ty_int opt_lt)).sub fun _ _ => trivial) (fun _ => in_sub (dig _ _ _ 9 rfl (by decide) (by decide) (Ty.is ty_int rfl)) fun j hj => bd_small (by omega)) fun _ => ty_if (φ := fun _ => True) ((tt_test (ty_op (ty_var rfl) ty_int opt_eqI)).sub fun _ _ => trivial) (fun _ => ty_subX (ty_in (φ := fun i => i = 0) ty_int rfl) (dig _ _ _ 9 rfl (by decide) (by decide) (Ty.is ty_int rfl)) fun j k hj hk => bd_small (by omega)) fun _ => ?_) (by rw [List.length_map]; omega)).imp fun σ H ⟨j, g⟩ => ⟨l ++ [j.1], ⟨by rw [List.length_append, hp.1]; rfl, fun k hk => ?_⟩, ?_⟩
    · refine ty_mulX (φ := fun i => 0 ≤ i ∧ i ≤ 10 ^ 40) (ψ := fun j => j = 1 ∨ j = -1) (ty_addX (φ := fun i => i = 10 ^ 39) (ty_in (ty_op ty_int ty_int (opt_pow ⟨by decide, by decide, by decide⟩)) (by decide)) (dig _ _ _ 1000000000 rfl (by decide) (by decide) (Ty.is (ty_op ty_int ty_int (opt_pow ⟨by decide, by decide, by decide⟩)) (congrArg PyData.int (by decide)))) fun i j hi hj => by subst hi; omega) (ty_pickX (n := 2) (tya_cons (ty_in ty_int (.inl rfl)) (tya_cons (ty_in (ty_un ty_int unt_neg) (.inr rfl)) tya_nil)) (ty_call 2 ⟨by decide, by decide⟩ (tya_cons (ty_var rfl) (tya_cons (Ty.is ty_int rfl) tya_nil))) (by decide)) fun i j hi hj => ?_
      rcases hj with rfl | rfl
      · exact ⟨.inr ⟨by decide, by decide⟩, bd_40 (by omega)⟩
      · exact ⟨.inr ⟨by decide, by decide⟩, bd_40 (by omega)⟩
    · rcases List.mem_append.mp hk with z | z
      · exact hp.2 k z
      · rw [List.mem_singleton.mp z]; exact j.2
    · rw [List.map_append]
      exact ⟨g.1, EnvL.less (by exact ⟨fun _ _ _ _ h => h, fun _ _ _ _ h => h, fun _ _ _ _ h => h, trivial⟩) g.2⟩
  · refine tys_fin (i := 2) rfl nm ?_
    show TyS W [some bx, some (dt K (.int (x : Nat))), some (lstT (l.1.map fun i => dt K (.int i))), none, none] _ _ _ _ _
    refine tys_retW ((ty_cb (tya_cons (ty_var rfl) tya_nil) cbt_tupL).sub fun v H _ z => ⟨l.1, l.2, tupT_data (ds := l.1.map .int) (by rw [List.map_map]; exact z)⟩)
end
section
variable {P : Program} {w : World} {K : PySem.W.Frag} {mg : Str → Option Value} {base : Heap}
theorem wgt_step (c : Int) (ns ds : List Int) {i : Nat} {p : Int × Int} (e : (ns.zip ds)[i]? = some p) : ((ns.zip ds).take (i + 1)).foldl (fun f p => f * chI p.1 p.2.toNat) c = ((ns.zip ds).take i).foldl (fun f p => f * chI p.1 p.2.toNat) c * chI p.1 p.2.toNat := by
  rw [List.take_add_one, e, List.foldl_append]; rfl
theorem part_bd {c : Int} {ns ds : List Int} (h : WgtC ns ds) (hc : bd 200 c) {i : Nat} (hi : i ≤ 2) : bd 2802 (((ns.zip ds).take i).foldl (fun f p => f * chI p.1 p.2.toNat) c) := by
  rw [wgt_from]
  exact (hc.mul (wgt_bd h.n h.d i hi)).mono (by omega)
def sp_law_value (K : PySem.W.Frag) : Sp := spT (fun x : List Term × List Int => ValC x.1 x.2) (fun x => [dt K (polD x.1), dt K (intsD x.2)]) (fun x => dt K (.int (valI x.1 x.2)))
theorem ok_law_value (T : Tx P K mg) : FnOk P w K mg base (L2.CX P w) 2 T.a_law_value T.f_law_value ["polynomial", "items"] (sp_law_value K) := by
  have G_law_over := ok_law_over (w := w) (base := base) T
  have nd := sc_law_value.nd
  refine fn_ty T.F_law_value sc_law_value (fun x _ => rfl) fun cdv Ar outer s H E hr => ⟨_, (pss_cons (pset 2 nd pe_int)
    (pss_cons (ps_for PassesOwn.never rfl (k_itup (K := K) rfl (pv 0)) (k_gtup (K := K) (n := 2) rfl (pgs_cons (pgn 3 nd) (pgs_cons (pgn 4 nd) pgs_nil))) (pss_cons (ps_for PassesOwn.never rfl (k_izip (K := K) rfl T.m_zip (pa_cons (pv 1) (pa_cons (pv 3) pa_nil))) (k_gtup (K := K) (n := 2) rfl (pgs_cons (pgn 5 nd) (pgs_cons (pgn 6 nd) pgs_nil))) (pss_one (pset 4 nd (pe_op op_mulA (pv 4) (pcall G_law_over (hr.mono (by decide)) T.D_law_over (pa_cons (pv 5) (pa_cons (pv 6) pa_nil)))))))
    (pss_one (pset 2 nd (pe_op (k_add (K := K) rfl) (pv 2) (pv 4))))))
    (pss_one (ps_ret (pv 2))))), fun W x hC => ?_⟩
  obtain ⟨l, ns⟩ := x
  have h : ValC l ns := hC
  show TyS W [some (dt K (polD l)), some (dt K (intsD ns)), none, none, none, none, none] _ _ _ _ _
  refine tys_seqE (tys_set (ty_int (K := K))) ?_
  show TyS W [some (dt K (polD l)), some (dt K (intsD ns)), some (dt K (.int 0)), none, none, none, none] _ _ _ _ _
  refine tys_seqE (W' := W) (Γ' := [some (dt K (polD l)), some (dt K (intsD ns)), some (dt K (.int (valI l ns))), none, none, none, none]) (tys_for (fun _ _ => W) (fun i (_ : Unit) => [some (dt K (polD l)), some (dt K (intsD ns)), some (dt K (.int (valI (l.take i) ns))), none, none, none, none]) () (tyi_tupA (f := termD) (ty_var rfl)) (fun _ _ => Wd.Like.refl W) (fun σ H g => g) (fun i T' _ hT => ?_) fun _ σ H g => by
      rw [List.length_map, List.take_length] at g
      exact g) (TyS.never (tys_retW (ty_var rfl)))
  obtain ⟨t, e, rfl⟩ := map_get hT
  have ht := List.mem_of_getElem? e
  have hw := h.wg ht
  refine ⟨_, TyG.sub (tyg_pair (i := 3) (k := 4)) fun v H z => data_tupT (ds := [intsD t.1, .int t.2]) z, ?_⟩
  show TyS W [some (dt K (polD l)), some (dt K (intsD ns)), some (dt K (.int (valI (l.take i) ns))), some (dt K (intsD t.1)), some (dt K (.int t.2)), none, none] _ _ _ _ _
  refine tys_seqE (W' := W) (Γ' := [some (dt K (polD l)), some (dt K (intsD ns)), some (dt K (.int (valI (l.take i) ns))), some (dt K (intsD t.1)), some (dt K (.int (t.2 * wgt ns t.1))), none, none]) (tys_for (fun _ _ => W) (fun j (_ : Unit) => [some (dt K (polD l)), some (dt K (intsD ns)), some (dt K (.int (valI (l.take i) ns))), some (dt K (intsD t.1)), some (dt K (.int (((ns.zip t.1).take j).foldl (fun f p => f * chI p.1 p.2.toNat) t.2))), none, none]) () (tyi_zipA (f := .int) (h := .int) (ty_var (T := dt K (intsD ns)) rfl) (ty_var (T := dt K (intsD t.1)) rfl)) (fun _ _ => Wd.Like.refl W) (fun σ H g => g) (fun j T' _ hT => ?_) fun _ σ H g => by
      rw [List.length_map, List.take_length, wgt_from] at g
      exact g) ?_
  · obtain ⟨p, ep, rfl⟩ := map_get hT
    have hm := List.mem_of_getElem? ep
    have hp := hw.d p.2 (List.of_mem_zip hm).2
    have hl : j < 2 := by
      have z := (List.getElem?_eq_some_iff.mp ep).1
      rw [List.length_zip] at z
      have := hw.l
      omega
    have hb := hw.n p.1 (List.of_mem_zip hm).1
    have hk : p.2.toNat ≤ 6 := by omega
    refine ⟨_, tyg_pair (i := 5) (k := 6), ?_⟩
    show TyS W [some (dt K (polD l)), some (dt K (intsD ns)), some (dt K (.int (valI (l.take i) ns))), some (dt K (intsD t.1)), some (dt K (.int (((ns.zip t.1).take j).foldl (fun f p => f * chI p.1 p.2.toNat) t.2))), some (dt K (.int p.1)), some (dt K (.int p.2))] _ _ _ _ _
    exact (tys_set (i := 4) (Ty.is (e := .int (((ns.zip t.1).take (j + 1)).foldl (fun f p => f * chI p.1 p.2.toNat) t.2)) (ty_op (ty_var rfl) (ty_call (p.1, p.2.toNat) ⟨hb, hk⟩ (tya_cons (ty_var rfl) (tya_cons (Ty.is (ty_var rfl) (by rw [Int.toNat_of_nonneg hp.1])) tya_nil))) (opt_mulW (bd.mul_ok (part_bd hw (h.ht t ht).2 (by omega)) (chI_bd hb hk) (by omega)))) (by rw [wgt_step _ _ _ ep]))).imp fun σ H g => ⟨(), g.1, EnvL.less (by exact ⟨fun _ _ _ _ h => h, fun _ _ _ _ h => h, fun _ _ _ _ h => h, fun _ _ _ _ h => h, fun _ _ _ _ h => h, trivial⟩) g.2⟩
  · refine (tys_set (i := 2) (Ty.is (e := .int (valI (l.take (i + 1)) ns)) (ty_op (ty_var rfl) (ty_var rfl) opt_add) ?_)).imp fun σ H g => ⟨(), g.1, EnvL.less (by exact ⟨fun _ _ _ _ h => h, fun _ _ _ _ h => h, fun _ _ _ _ h => h, trivial⟩) g.2⟩
    unfold valI
    rw [List.take_add_one, e, List.map_append, List.sum_append]
    simp
end
section
variable {P : Program} {w : World} {K : PySem.W.Frag} {mg : Str → Option Value} {base : Heap}
theorem bet6_le (d : Int) : (!(decide (0 ≤ d) && decide (d ≤ 6))) = !bet6 (.int d) := rfl
theorem asc_no {ts : List Term} : (((List.range (ts.length - 1)).filter fun k => !HT.lexLt (ts.map (·.1) |>.getD k []) (ts.map (·.1) |>.getD (k + 1) [])).length = 0) ↔ asc (ts.map (·.1)) := by
  rw [List.length_eq_zero_iff, List.filter_eq_nil_iff]
  constructor
  · intro h
    refine asc_adj fun k h1 h2 => ?_
    rw [List.length_map] at h2
    have z := h (k - 1) (List.mem_range.mpr (by omega))
    rw [show k - 1 + 1 = k by omega] at z
    simpa using z
  · intro h k hk
    have hk := List.mem_range.mp hk
    have z := asc_nth h (k := k + 1) (by omega) (by rw [List.length_map]; omega)
    rw [Nat.add_sub_cancel] at z
    simpa using z
def sp_law_is_poly (K : PySem.W.Frag) : Sp := spT (fun x : PyData × Nat => fine 6 x.1 ∧ x.2 ≤ 2) (fun x => [dt K x.1, dt K (.int (x.2 : Nat))]) (fun x => dt K (.bool (polyB x.2 x.1)))
theorem ok_law_is_poly (T : Tx P K mg) : FnOk P w K mg base (L2.CX P w) 1 T.a_law_is_poly T.f_law_is_poly ["value", "items"] (sp_law_is_poly K) := by
  have nd := sc_law_is_poly.nd
  refine fn_ty T.F_law_is_poly sc_law_is_poly (fun x _ => rfl) fun cdv Ar outer s H E hr => ⟨_, (pss_cons (ps_if (pt_not (pt_val (k_isi (K := K) rfl T.m_isinstance (pa_cons (pv 0) (pa_cons (bt_tuple T.m_tuple) pa_nil))))) (pss_one (ps_ret pe_bl)) pss_nil)
    (pss_cons (ps_for PassesOwn.never rfl (k_itup (K := K) rfl (pv 0)) (pgn 2 nd) (pss_cons (ps_if (PW.pt (pw_or (pt_not (pt_val (k_isi (K := K) rfl T.m_isinstance (pa_cons (pv 2) (pa_cons (bt_tuple T.m_tuple) pa_nil))))) (pw_or (pt_cmpR (k_ne (K := K) rfl hr.units) (k_len (K := K) rfl T.m_len (pa_cons (pv 2) pa_nil)) pe_int (nomark _)) (pw_or (pt_not (pt_val (k_isi (K := K) rfl T.m_isinstance (pa_cons (pe_ix (k_ix (K := K) rfl) (pv 2) pe_int (fun _ _ => rfl)) (pa_cons (bt_tuple T.m_tuple) pa_nil))))) (pw_or1 (pt_cmpR (k_ne (K := K) rfl hr.units) (k_len (K := K) rfl T.m_len (pa_cons (pe_ix (k_ix (K := K) rfl) (pv 2) pe_int (fun _ _ => rfl)) pa_nil)) (pv 1) (nomark _))))))) (pss_one (ps_ret pe_bl)) pss_nil)
    (pss_cons (ps_if (pt_cmpR (k_ne (K := K) rfl hr.units) (plc [("one", 3)] nd (k_itup (K := K) rfl (pe_op (k_add (K := K) rfl) (pe_ix (k_ix (K := K) rfl) (pv 2) pe_int (fun _ _ => rfl)) (pe_slice (k_sl (K := K) rfl) (pv 2) (po_some pe_int) po_none))) (fun _ _ _ _ _ => (pgn 3 nd)) (fun _ _ _ _ _ => (pts_one (PW.pt (pw_or (pt_not (pt_val (k_isi (K := K) rfl T.m_isinstance (pa_cons (pv 3) (pa_cons (bt_int T.m_int) pa_nil))))) (pw_or1 (pt_val (k_isi (K := K) rfl T.m_isinstance (pa_cons (pv 3) (pa_cons (bt_bool T.m_bool) pa_nil))))))))) (fun _ _ _ _ _ => pe_int) (by kernel_rfl)) (pe_lst pa_nil) (nomark _)) (pss_one (ps_ret pe_bl)) pss_nil)
    (pss_one (ps_if (PW.pt (pw_or (pt_cmpR (k_eq (K := K) rfl hr.units) (pe_ix (k_ix (K := K) rfl) (pv 2) pe_int (fun _ _ => rfl)) pe_int (nomark _)) (pw_or1 (pt_cmpR (k_ne (K := K) rfl hr.units) (plc [("degree", 4)] nd (k_itup (K := K) rfl (pe_ix (k_ix (K := K) rfl) (pv 2) pe_int (fun _ _ => rfl))) (fun _ _ _ _ _ => (pgn 4 nd)) (fun _ _ _ _ _ => (pts_one (pt_not (pt_chain op_le op_le pe_int (pv 4) pe_int)))) (fun _ _ _ _ _ => pe_int) (by kernel_rfl)) (pe_lst pa_nil) (nomark _))))) (pss_one (ps_ret pe_bl)) pss_nil)))))
    (pss_one (ps_ret (pe_cmpR (k_eq (K := K) rfl hr.units) (plc [("k", 5)] nd (pi_range2 rfl T.m_range (pa_cons pe_int (pa_cons (k_len (K := K) rfl T.m_len (pa_cons (pv 0) pa_nil)) pa_nil))) (fun _ _ _ _ _ => (pgn 5 nd)) (fun _ _ _ _ _ => (pts_one (pt_not (pt_cmpR (k_ltT (K := K) rfl (Nat.lt_of_le_of_lt (Nat.le_add_right _ _) hr.units)) (pe_ix (k_ix (K := K) rfl) (pe_ix (k_ix (K := K) rfl) (pv 0) (pe_op op_sub (pv 5) pe_int) (fun _ _ => rfl)) pe_int (fun _ _ => rfl)) (pe_ix (k_ix (K := K) rfl) (pe_ix (k_ix (K := K) rfl) (pv 0) (pv 5) (fun _ _ => rfl)) pe_int (fun _ _ => rfl)) (nomark _))))) (fun _ _ _ _ _ => (pv 5)) (by kernel_rfl)) (pe_lst pa_nil) (nomark _)))))), fun W x hC => ?_⟩
  obtain ⟨d, n⟩ := x
  obtain ⟨hf, hn⟩ : fine 6 d ∧ n ≤ 2 := hC
  cases d with
  | tuple ts =>
    obtain ⟨hl, ht⟩ : ts.length < 60 ∧ ∀ e ∈ ts, fine 5 e := hf
    refine tys_guard (φ := (· = false)) (by tm_at "ttis") (fun z => Bool.noConfusion z) fun _ => ?_
    refine tys_seqG (φ := ∀ t ∈ ts, termB n t = true) (tys_forP (fun i (_ : Unit) => ∀ t ∈ ts.take i, termB n t = true) (fun _ _ => W) (fun _ _ => [some (dt K (.tuple ts)), some (dt K (.int (n : Nat))), none, none, none, none]) () (fun t z => by cases z) (tyi_tupD (ty_var rfl)) (fun _ _ => Wd.Like.refl W) (fun σ H g => g) (fun i T' _ hT hp => ?_) fun _ σ H hp g => ⟨fun t z => hp t (by rw [List.length_map, List.take_length]; exact z), g⟩) fun hall => ?_
    · obtain ⟨t, e, rfl⟩ := map_get hT
      have hm := List.mem_of_getElem? e
      have no : termB n t = false → TyS W [some (dt K (.tuple ts)), some (dt K (.int (n : Nat))), some (dt K t), none, none, none] (tRet (tC (.bl false))) noN (rW W (dt K (.bool (polyB n (.tuple ts))))) (fun σ H => (∀ t ∈ ts, termB n t = true) ∧ nE W [some (dt K (.tuple ts)), some (dt K (.int (n : Nat))), none, none, none, none] σ H) (fun σ H => ∃ y : Unit, (∀ t ∈ ts.take (i + 1), termB n t = true) ∧ nE W [some (dt K (.tuple ts)), some (dt K (.int (n : Nat))), none, none, none, none] σ H) := fun z => tys_retW (Ty.is ty_bl (by rw [poly_no hm z]))
      have hft := ht t hm
      refine ⟨_, tyg_name 2, ?_⟩
      show TyS W [some (dt K (.tuple ts)), some (dt K (.int (n : Nat))), some (dt K t), none, none, none] _ _ _ _ _
      cases t with
      | tuple us =>
        by_cases h2 : us.length = 2
        · obtain ⟨a, b, rfl⟩ : ∃ a b, us = [a, b] := by
            match us, h2 with
            | [a, b], _ => exact ⟨a, b, rfl⟩
          have ia : ∀ W' : Wd, Ty W' [some (dt K (.tuple ts)), some (dt K (.int (n : Nat))), some (dt K (.tuple [a, b])), none, none, none] (tOp (rIx K) (tVar 2) (tC (.int 0))) (dt K a) := fun W' => ty_op (ty_var rfl) ty_int opt_ix0
          have ib : ∀ W' : Wd, Ty W' [some (dt K (.tuple ts)), some (dt K (.int (n : Nat))), some (dt K (.tuple [a, b])), none, none, none] (tOp (rIx K) (tVar 2) (tC (.int 1))) (dt K b) := fun W' => ty_op (ty_var rfl) ty_int (opt_ixT (i := 1) (atI_nat (j := 1) rfl))
          have hfa := hft.2 a (.head _)
          have pre : ∀ {tt : TT} {c : Bool}, Tt W [some (dt K (.tuple ts)), some (dt K (.int (n : Nat))), some (dt K (.tuple [a, b])), none, none, none] tt (· = c) → Tt W [some (dt K (.tuple ts)), some (dt K (.int (n : Nat))), some (dt K (.tuple [a, b])), none, none, none] (tOr (tNot (tB (tCB (rIsi K) (tCons (tVar 2) (tCons (tC (V.ty "tuple")) tNil))))) (tOr (tTest (tOp (rNeA K) (tCB (Ew.rLen K) (tCons (tVar 2) tNil)) (tC (.int 2)))) tt)) (· = c) := fun {tt c} h => Tt.is (tt_orB (a := false) (by tm_at "ttis") fun _ => tt_orB (a := false) (Tt.is (tt_test (ty_op (ty_cb (tya_cons (ty_var rfl) tya_nil) cbt_lenT) ty_int opt_neI)) rfl) fun _ => h) (by simp)
          cases a with
          | tuple ds =>
            refine tys_guard (φ := (· = !decide (ds.length = n))) (pre (Tt.is (tt_orB (a := false) (Tt.is (tt_notB (tt_B (ty_cb (tya_cons (ia W) (tya_cons ty_c tya_nil)) cbt_isi))) rfl) fun _ => tt_test (ty_op (ty_cb (tya_cons (ia W) tya_nil) cbt_lenT) (ty_var rfl) opt_neI)) (by rw [Bool.false_or, decide_eq_decide.mpr (show ((ds.length : Int) = (n : Nat)) ↔ ds.length = n by omega)]))) (fun z => no (by show ((decide (ds.length = n) && ds.all bet6) && nzB b) = false; rw [bnot1' z]; rfl)) fun z => ?_
            have hdl := bnot0' z
            have hdn : ds.length < 60 := hfa.1
            have whole : Ty W [some (dt K (.tuple ts)), some (dt K (.int (n : Nat))), some (dt K (.tuple [.tuple ds, b])), none, none, none] (tOp (rNeA K) (tLc (iTup K (tOp (rAddA K) (tOp (rIx K) (tVar 2) (tC (.int 0))) (tSl (rSlAll K) (tVar 2) (tPart (tC (.int 1))) tNoPart))) (gName 3) (tOr (tNot (tB (tCB (rIsi K) (tCons (tVar 3) (tCons (tC (V.ty "int")) tNil))))) (tB (tCB (rIsi K) (tCons (tVar 3) (tCons (tC (V.ty "bool")) tNil))))) (tC (.int 1)) [3]) (tLst tNil)) (dt K (.bool (!(ds ++ [b]).all isWholeD))) := by
              have ls := ty_lstG (f := fun _ : PyData => PyData.int 1) (xs := (ds ++ [b]).filter fun d => !isWholeD d) (tyl_filter (W := W) (Γ := [some (dt K (.tuple ts)), some (dt K (.int (n : Nat))), some (dt K (.tuple [.tuple ds, b])), none, none, none]) (j := 3) (vs := [3]) (te := tC (.int 1)) (tt := tOr (tNot (tB (tCB (rIsi K) (tCons (tVar 3) (tCons (tC (V.ty "int")) tNil))))) (tB (tCB (rIsi K) (tCons (tVar 3) (tCons (tC (V.ty "bool")) tNil))))) (dt K) (fun _ => dt K (.int 1)) (fun d => !isWholeD d) (tyi_tupD (te := tOp (rAddA K) (tOp (rIx K) (tVar 2) (tC (.int 0))) (tSl (rSlAll K) (tVar 2) (tPart (tC (.int 1))) tNoPart)) (ty_op (ia W) (Ty.is (ty_slT (lo := some 1) (hi := none) (ty_var rfl) (tyo_some (ty_int (K := K))) tyo_none) (show PyData.tuple (cutD [PyData.tuple ds, b] (some 1) none) = .tuple [b] from rfl)) (opt_catT (by simp; omega)))) (by rw [List.length_append]; simp; omega) (by decide) fun W' y hy => ⟨Tt.is (tt_orB (tt_notB (tt_B (ty_cb (tya_cons (ty_var rfl) (tya_cons ty_c tya_nil)) cbt_isi))) fun _ => tt_B (ty_cb (tya_cons (ty_var rfl) (tya_cons ty_c tya_nil)) cbt_isi)) (by cases y <;> rfl), fun _ => ty_int⟩)
              have z := ty_op ls (ty_lstD (ds := []) tya_nil (by decide)) (opt_neNilL (W := W) (K := K) (by rw [List.all_map]; exact List.all_eq_true.mpr fun _ _ => rfl))
              refine z.is (congrArg PyData.bool ?_)
              rw [List.length_map]
              congr 1
              rw [Bool.eq_iff_iff]
              rw [decide_eq_true_iff, List.length_eq_zero_iff, List.filter_eq_nil_iff, List.all_eq_true]
              exact ⟨fun h x hx => by simpa using h x hx, fun h x hx => by simpa using h x hx⟩
            refine tys_guard (φ := (· = !(ds ++ [b]).all isWholeD)) (tt_test whole) (fun z => no ?_) fun z => ?_
            · have z := bnot1' z
              cases q : (ds.all bet6 && nzB b) with
              | false =>
                show ((decide (ds.length = n) && ds.all bet6) && nzB b) = false
                rw [Bool.and_assoc, q, Bool.and_false]
              | true =>
                rw [Bool.and_eq_true] at q
                obtain ⟨ns, rfl, _⟩ := bet6_all q.1
                rw [List.all_append, all_whole, Bool.true_and] at z
                cases b with
                | int c => exact Bool.noConfusion (show true = false from z)
                | _ => exact Bool.noConfusion (show false = true from q.2)
            · have z := bnot0' z
              rw [List.all_append, Bool.and_eq_true] at z
              obtain ⟨ns, rfl⟩ := whole_ints z.1
              obtain ⟨c, rfl⟩ : ∃ c, b = .int c := by
                cases b <;> first | exact ⟨_, rfl⟩ | (have z2 := z.2; simp [isWholeD] at z2)
              have degs : Ty W [some (dt K (.tuple ts)), some (dt K (.int (n : Nat))), some (dt K (.tuple [.tuple (ns.map .int), .int c])), none, none, none] (tOp (rNeA K) (tLc (iTup K (tOp (rIx K) (tVar 2) (tC (.int 0)))) (gName 4) (tNot (tTest (tChain (rI0 fun i j => .bl (decide (i ≤ j))) (rI0 fun i j => .bl (decide (i ≤ j))) (tC (.int 0)) (tVar 4) (tC (.int 6))))) (tC (.int 1)) [4]) (tLst tNil)) (dt K (.bool (!(ns.map PyData.int).all bet6))) := by
                have ls := ty_lstG (f := fun _ : Int => PyData.int 1) (xs := ns.filter fun d => !bet6 (.int d)) (tyl_filter (W := W) (Γ := [some (dt K (.tuple ts)), some (dt K (.int (n : Nat))), some (dt K (.tuple [.tuple (ns.map .int), .int c])), none, none, none]) (j := 4) (vs := [4]) (te := tC (.int 1)) (tt := tNot (tTest (tChain (rI0 fun i j => .bl (decide (i ≤ j))) (rI0 fun i j => .bl (decide (i ≤ j))) (tC (.int 0)) (tVar 4) (tC (.int 6))))) (fun i => dt K (.int i)) (fun _ => dt K (.int 1)) (fun d => !bet6 (.int d)) (tyi_tupA (f := .int) (te := tOp (rIx K) (tVar 2) (tC (.int 0))) (ia W)) (by rw [List.length_map] at hdn; omega) (by decide) fun W' y hy => ⟨Tt.is (tt_notB (tt_test (ty_chain ty_int (ty_var rfl) opt_le (fun _ => ty_int) opt_le))) rfl, fun _ => ty_int⟩)
                have z := ty_op ls (ty_lstD (ds := []) tya_nil (by decide)) (opt_neNilL (W := W) (K := K) (by rw [List.all_map]; exact List.all_eq_true.mpr fun _ _ => rfl))
                refine z.is (congrArg PyData.bool ?_)
                rw [List.length_map]
                congr 1
                rw [Bool.eq_iff_iff]
                rw [decide_eq_true_iff, List.length_eq_zero_iff, List.filter_eq_nil_iff, List.all_map, List.all_eq_true]
                exact ⟨fun h x hx => by simpa using h x hx, fun h x hx => by simpa using h x hx⟩
              refine tys_if (φ := (· = (decide (c = 0) || !(ns.map PyData.int).all bet6))) (tt_orB (tt_test (ty_op (ib W) ty_int opt_eqI)) fun _ => tt_test degs) (fun z => TyS.never (no ?_)) fun z => tys_next.imp fun σ H g => ⟨(), take_more e hp ?_, g.1, EnvL.less (by exact ⟨fun _ _ _ _ h => h, fun _ _ _ _ h => h, trivial⟩) g.2⟩
              · show ((decide ((ns.map PyData.int).length = n) && (ns.map PyData.int).all bet6) && !decide (c = 0)) = false
                rw [hdl, Bool.true_and]
                cases q1 : decide (c = 0) <;> cases q2 : (ns.map PyData.int).all bet6 <;> rw [q1, q2] at z <;> first | rfl | cases z
              · show ((decide ((ns.map PyData.int).length = n) && (ns.map PyData.int).all bet6) && !decide (c = 0)) = true
                rw [hdl, Bool.true_and]
                cases q1 : decide (c = 0) <;> cases q2 : (ns.map PyData.int).all bet6 <;> rw [q1, q2] at z <;> first | rfl | cases z
          | _ => exact tys_guard (φ := (· = true)) (pre (tt_orTr (Tt.is (tt_notB (tt_B (ty_cb (tya_cons (ia W) (tya_cons ty_c tya_nil)) cbt_isi))) rfl))) (fun _ => no rfl) fun z => Bool.noConfusion z
        · exact tys_guard (φ := (· = true)) (Tt.is (tt_orB (a := false) (b := true) (by tm_at "ttis") fun _ => tt_orTr (Tt.is (tt_test (ty_op (ty_cb (tya_cons (ty_var rfl) tya_nil) cbt_lenT) ty_int opt_neI)) (by rw [decide_eq_false (show ¬ ((us.length : Int) = 2) by omega)]; rfl))) rfl) (fun _ => no (by
            unfold termB
            split
            · rename_i q
              injection q with q
              rw [q] at h2
              exact absurd rfl h2
            · rfl)) fun z => Bool.noConfusion z
      | _ => exact tys_guard (φ := (· = true)) (tt_orTr (by tm_at "ttis")) (fun _ => no rfl) fun z => Bool.noConfusion z
    · obtain ⟨l, rfl, hok⟩ := terms_of hall
      rw [List.length_map] at hl
      have ix : ∀ (W' : Wd) (te : TE) (k : Nat) (Γ : Gam), Γ[0]? = some (some (dt K (.tuple (l.map termD)))) → k < l.length → Ty W' Γ te (dt K (.int (k : Nat))) → Ty W' Γ (tOp (rIx K) (tOp (rIx K) (tVar 0) te) (tC (.int 0))) (dt K (intsD ((l.map (·.1)).getD k []))) := fun W' te k Γ h0 hk hte => by
        have e1 : (l.map termD)[k]? = some (termD l[k]) := by rw [List.getElem?_map, List.getElem?_eq_getElem hk]; rfl
        have e2 : (l.map (·.1)).getD k [] = l[k].1 := by rw [List.getD_eq_getElem?_getD, List.getElem?_map, List.getElem?_eq_getElem hk]; rfl
        rw [e2]
        exact ty_op (ty_op (ty_var h0) hte (opt_ixTN e1)) ty_int (opt_ix0 (d := intsD l[k].1) (ds := [.int l[k].2]))
      have hi : TyI W [some (dt K (.tuple (l.map termD))), some (dt K (.int (n : Nat))), none, none, none, none] (iRng2 (tCons (tC (.int 1)) (tCons (tCB (Ew.rLen K) (tCons (tVar 0) tNil)) tNil))) ((List.range (l.length - 1)).map fun k => dt K (.int (1 + (k : Nat)))) := by
        have z := tyi_rng2 (W := W) (Γ := [some (dt K (.tuple (l.map termD))), some (dt K (.int (n : Nat))), none, none, none, none]) (K := K) (ta := tC (.int 1)) (tb := tCB (Ew.rLen K) (tCons (tVar 0) tNil)) (i := 1) (j := ((l.map termD).length : Nat)) ty_int (ty_cb (tya_cons (ty_var rfl) tya_nil) cbt_lenT) (by decide) (by decide) (by omega) (by rw [List.length_map]; omega)
        rw [List.length_map, show (((l.length : Nat) : Int) - 1).toNat = l.length - 1 by omega] at z
        exact z
      have ls := ty_lstG (f := fun k : Nat => PyData.int (1 + (k : Nat))) (xs := (List.range (l.length - 1)).filter fun k => !HT.lexLt ((l.map (·.1)).getD k []) ((l.map (·.1)).getD (k + 1) [])) (tyl_filter (j := 5) (vs := [5]) (te := tVar 5) (tt := tNot (tTest (tOp (rLtT K) (tOp (rIx K) (tOp (rIx K) (tVar 0) (tOp (rI0 fun i j => .int (i - j)) (tVar 5) (tC (.int 1)))) (tC (.int 0))) (tOp (rIx K) (tOp (rIx K) (tVar 0) (tVar 5)) (tC (.int 0)))))) (fun k : Nat => dt K (.int (1 + (k : Nat)))) (fun k : Nat => dt K (.int (1 + (k : Nat)))) (fun k => !HT.lexLt ((l.map (·.1)).getD k []) ((l.map (·.1)).getD (k + 1) [])) hi (by rw [List.length_range]; omega) (by decide) fun W' k hk => ⟨?_, fun _ => ty_var rfl⟩)
      · have z := ty_op ls (ty_lstD (ds := []) tya_nil (by decide)) (opt_eqNilL (W := W) (K := K) (by rw [List.all_map]; exact List.all_eq_true.mpr fun _ _ => rfl))
        refine TyS.never (tys_retW (z.is ?_))
        show _ = PyData.bool ((l.map termD).all (termB n) && decide (asc ((l.map termD).map fun t => degsOf (fstD t))))
        rw [degs_terms, List.all_eq_true.mpr hall, Bool.true_and, List.length_map]
        exact congrArg PyData.bool (decide_eq_decide.mpr asc_no)
      · have hk := List.mem_range.mp hk
        exact tt_notB (tt_test (ty_op (ix W' _ k _ rfl (by omega) (Ty.is (ty_op (ty_var rfl) ty_int opt_sub) (by rw [show (1 : Int) + (k : Nat) - 1 = (k : Nat) by omega]))) (ix W' _ (k + 1) _ rfl (by omega) (Ty.is (ty_var rfl) (by rw [show (1 : Int) + (k : Nat) = ((k + 1 : Nat) : Int) by omega]))) opt_ltT))
  | _ => exact tys_guard (φ := (· = true)) (by tm_at "ttis") (fun _ => tys_retW (Ty.is ty_bl rfl)) fun z => Bool.noConfusion z
end
section
variable {P : Program} {w : World} {K : PySem.W.Frag} {mg : Str → Option Value} {base : Heap}
def r7 : List Int := (List.range 7).map fun i => ((i : Nat) : Int)
theorem lots_good : ∀ n, n ≤ 2 → ((lotsI (List.replicate n r7)).all fun t => decide (t.length = n) && t.all fun m => decide (0 ≤ m) && decide (m < 7)) = true
  | 0, _ => by decide +kernel
  | 1, _ => by decide +kernel
  | 2, _ => by decide +kernel
  | n + 3, h => absurd h (by omega)
theorem lots_nodup : ∀ n, n ≤ 2 → (lotsI (List.replicate n r7)).Nodup
  | 0, _ => by decide +kernel
  | 1, _ => by decide +kernel
  | 2, _ => by decide +kernel
  | n + 3, h => absurd h (by omega)
theorem lots_49 : ∀ n, n ≤ 2 → (lotsI (List.replicate n r7)).length ≤ 49
  | 0, _ => by decide +kernel
  | 1, _ => by decide +kernel
  | 2, _ => by decide +kernel
  | n + 3, h => absurd h (by omega)
theorem lots_each {n : Nat} (hn : n ≤ 2) {t : List Int} (h : t ∈ lotsI (List.replicate n r7)) : t.length = n ∧ TS.Bd 7 t := by
  have z := List.all_eq_true.mp (lots_good n hn) t h
  rw [Bool.and_eq_true] at z
  refine ⟨of_decide_eq_true z.1, fun m hm => ?_⟩
  have y := List.all_eq_true.mp z.2 m hm
  rw [Bool.and_eq_true] at y
  exact ⟨of_decide_eq_true y.1, of_decide_eq_true y.2⟩
theorem rep_lines (l : List Int) : ∀ n : Nat, (List.replicate n [linD l]).flatten = (List.replicate n l).map linD
  | 0 => rfl
  | n + 1 => by rw [List.replicate_succ, List.flatten_cons, rep_lines l n, List.replicate_succ, List.map_cons]; rfl
/-- a drawn polynomial -/
structure PolD (n : Nat) (l : List Term) : Prop where
  ok : PolOk n l
  few : l.length ≤ 49
  bd : ∀ t ∈ l, bd 200 t.2
/-- a world in which something is known of a value -/
def Wd.kn (W : Wd) (v : V) (A : Typ) : Wd where
  M := W.M
  B := W.B
  H0 := W.H0
  Ω := fun H => W.Ω H ∧ A.p W.M W.B v H
  sub := W.sub
  kept := fun e ⟨h1, h2⟩ => ⟨W.kept e h1, A.up (e.toM W.sub) h2⟩
section
variable {W : Wd} {Γ : Gam} {K : PySem.W.Frag} {te tb tk : TE} {tt : TT} {g : TG} {vs : List Nat} {T : Typ} {n : Nat} {ts : TS} {N : Sx → Hp → Prop} {R : V → Hp → Prop} {Bk Ct : Sx → Hp → Prop}
theorem ty_kn {v : V} {A : Typ} : Ty (Wd.kn W v A) Γ (tC v) A := fun σ H c g Q q => q v H (Ex.refl _ _) c.own.2
/-- for .. in e: just something is known of e -/
theorem tys_forX {α : Type} {φ : α → Prop} {A : α → Typ} (h : Ty W Γ te (exT fun x => gd (φ x) (A x))) (hs : ∀ x v, φ x → TyS (Wd.kn W v (A x)) Γ (tFor (iList K (tC v)) g ts) N R Bk Ct) : TyS W Γ (tFor (iList K te) g ts) N R Bk Ct := fun σ H c e D dn dr db dc =>
  h σ H c e _ fun v H1 e1 ⟨x, hx, hv⟩ => by
    have c1 := c.up e1
    exact hs x v hx σ H1 ⟨c1.box, c1.al, c1.ex, c1.own, hv⟩ (e.up e1.toW) D (fun σ2 H2 e2 => dn σ2 H2 (e1.toW.trans e2)) dr (fun σ2 H2 e2 => db σ2 H2 (e1.toW.trans e2)) fun σ2 H2 e2 => dc σ2 H2 (e1.toW.trans e2)
/-- [.. for .. in e]: just something is known of e -/
theorem ty_lcX {α : Type} {φ : α → Prop} {A : α → Typ} (h : Ty W Γ te (exT fun x => gd (φ x) (A x))) (hs : ∀ x v, φ x → Ty (Wd.kn W v (A x)) Γ (tCB (rTupOf K) (tCons (tLc (iList K (tC v)) g tt tb vs) tNil)) T) : Ty W Γ (tCB (rTupOf K) (tCons (tLc (iList K te) g tt tb vs) tNil)) T := fun σ H c e Q q =>
  h σ H c e _ fun v H1 e1 ⟨x, hx, hv⟩ => by
    have c1 := c.up e1
    exact hs x v hx σ H1 ⟨c1.box, c1.al, c1.ex, c1.own, hv⟩ (e.up e1.toW) Q fun u H2 e2 z => q u H2 (e1.trans e2) z
theorem cutD_take {α : Type} (ds : List α) (k : Nat) : cutD ds none (some (k : Int)) = ds.take k := by
  unfold cutD
  have e : HT.sIx ds.length ds.length (some (k : Int)) = min k ds.length := by rw [HT.sIx_nat]
  rw [e]
  show (ds.drop 0).take (min k ds.length - 0) = _
  rw [List.drop_zero, Nat.sub_zero, List.take_eq_take_iff]
  omega
/-- e[:k], of neither much is known -/
theorem ty_slU {φ : List PyData → Prop} (h : Ty W Γ te (exT fun ms : List PyData => gd (φ ms) (dt K (.list ms)))) (hk : Ty W Γ tk (digT K n)) : Ty W Γ (tSl (rSlAll K) te tNoPart (tPart tk)) (exT fun ms : List PyData => gd (∃ m0 k, φ m0 ∧ k < n ∧ ms = m0.take k) (dt K (.list ms))) := fun σ H c g Q q =>
  h σ H c g _ fun v H1 e1 ⟨ms, hφ, hv⟩ => hk σ H1 (c.up e1) (g.up e1.toW) _ fun w H2 e2 ⟨k, hk, hw⟩ => by
    cases hw
    refine ⟨(k : Int), rfl, ?_⟩
    have hv2 := Rp.up e2.toW hv
    have e12 := e1.trans e2
    cases hv2 with
    | @lst a xs _ h1 h2 h3 => exact .inl ⟨_, _, rfl, SqL.of h1, fun p hp => q _ _ (e12.trans (Ex.new hp)) ⟨ms.take k, ⟨ms, k, hφ, hk, rfl⟩, .lst upd_same (c.nm (e12.free hp)) (by
        have z := RpA.up (Ex.new (B := W.B) (o := .lst (cutV xs none (some (k : Int)))) hp).toW (h3.cut none (some (k : Int)))
        rw [cutD_take] at z
        exact z)⟩⟩
theorem ty_rgT (h : Ty W Γ te (dt K (.int (n : Nat)))) (hn : n ≤ 1000) : Ty W Γ (tLstRg (tRg1 te)) (dt K (linD ((List.range n).map fun i => ((i : Nat) : Int)))) := fun σ H c g Q q => h σ H c g _ fun v H1 e hv => by
  cases hv
  refine ⟨(n : Nat), rfl, RgOk.of_le (by omega) (by omega) (by omega) (by omega), fun p hp => q _ _ (e.trans (Ex.new hp)) ?_⟩
  have e2 : rgV 0 (n : Nat) = ((List.range n).map fun i => ((i : Nat) : Int)).map V.int := by
    unfold rgV
    rw [List.map_map, Int.sub_zero, Int.toNat_natCast]
    exact List.map_congr_left fun i _ => by show V.int (0 + (i : Nat)) = _; rw [Int.zero_add]; rfl
  rw [e2]
  exact .lst upd_same ((c.up e).nm hp) (of_ints _)
end
/-- terms of unknown numbers -/
theorem tys_terms {K : PySem.W.Frag} {M B : Addr → Prop} {H : Hp} : ∀ {ls : List (List Int)} {xs : List V}, TysV M B (ls.map fun d => exT fun i : Int => gd (Whl i) (dt K (termD (d, i)))) xs H → ∃ l : List Term, l.map (·.1) = ls ∧ (∀ t ∈ l, Whl t.2) ∧ RpA M K H xs (l.map termD)
  | [], [], _ => ⟨[], rfl, fun _ z => (by cases z), .nil⟩
  | d :: ls, x :: xs, h => by
    obtain ⟨⟨i, hi, h1⟩, h2⟩ := h
    obtain ⟨l, h3, h4, h5⟩ := tys_terms h2
    exact ⟨(d, i) :: l, by rw [List.map_cons, h3], fun t ht => (List.mem_cons.mp ht).elim (fun e => by rw [e]; exact hi) (h4 t), .cons h1 h5⟩
  | [], _ :: _, h => h.elim
  | _ :: _, [], h => h.elim
def sp_law_poly (K : PySem.W.Frag) : Sp := spT (fun x : Nat × Nat => x.1 ≤ 2 ∧ x.2 ≤ 49) (fun x => [bx, dt K (.int (x.1 : Nat)), dt K (.int 6), dt K (.int (x.2 : Nat))]) (fun x => exT fun l : List Term => gd (PolD x.1 l) (dt K (polD l)))
theorem ok_law_poly (T : Tx P K mg) : FnOk P w K mg base (L2.CX P w) 3 T.a_law_poly T.f_law_poly ["box", "items", "most", "many"] (sp_law_poly K) := by
  have G_law_mixed := ok_law_mixed (w := w) (base := base) T
  have G_law_lots := ok_law_lots (w := w) (base := base) T
  have G_law_take := ok_law_take (w := w) (base := base) T
  have G_law_whole := ok_law_whole (w := w) (base := base) T
  have nd := sc_law_poly.nd
  refine fn_ty T.F_law_poly sc_law_poly (fun x _ => rfl) fun cdv Ar outer s H E hr => ⟨_, (pss_cons (pset 4 nd (pe_slice (k_sl (K := K) rfl) (pcall G_law_mixed (hr.mono (by decide)) T.D_law_mixed (pa_cons (pv 0) (pa_cons (pcall G_law_lots (hr.mono (by decide)) T.D_law_lots (pa_cons (pe_op op_rep (pe_lst (pa_cons (pe_listRg rfl rfl T.m_list (prg_1 rfl T.m_range (pe_op (k_add (K := K) rfl) (pv 2) pe_int))) pa_nil)) (pv 1)) pa_nil)) pa_nil))) po_none (po_some (pcall G_law_take (hr.mono (by decide)) T.D_law_take (pa_cons (pv 0) (pa_cons (pe_op (k_add (K := K) rfl) (pv 3) pe_int) pa_nil))))))
    (pss_one (ps_ret (k_tuple (K := K) rfl T.m_tuple (pa_cons (plc [("degrees", 5)] nd (k_ilist (K := K) rfl (k_sortLT (K := K) 7 rfl T.m_sorted (pa_cons (pv 4) pa_nil))) (fun _ _ _ _ _ => (pgn 5 nd)) (fun _ _ _ _ _ => pts_nil) (fun _ _ _ _ _ => (pe_tup (pa_cons (pv 5) (pa_cons (pcall G_law_whole (hr.mono (by decide)) T.D_law_whole (pa_cons (pv 0) pa_nil)) pa_nil)))) (by kernel_rfl)) pa_nil))))), fun W x hC => ?_⟩
  obtain ⟨n, many⟩ := x
  obtain ⟨hn, hm⟩ : n ≤ 2 ∧ many ≤ 49 := hC
  show TyS W [some bx, some (dt K (.int (n : Nat))), some (dt K (.int 6)), some (dt K (.int (many : Nat))), none, none] _ _ _ _ _
  have lots : Ty W [some bx, some (dt K (.int (n : Nat))), some (dt K (.int 6)), some (dt K (.int (many : Nat))), none, none] (tCall (sp_law_lots K) [] E0 (tCons (tOp rRep (tLst (tCons (tLstRg (tRg1 (tOp (rAddA K) (tVar 2) (tC (.int 1))))) tNil)) (tVar 1)) tNil)) (dt K (tupsL (lotsI (List.replicate n r7)))) :=
    ty_call (List.replicate n r7) ⟨by rw [List.length_replicate]; exact hn, fun l hl => by rw [(List.mem_replicate.mp hl).2]; decide⟩ (tya_cons (Ty.is (ty_op (ty_lstD (ds := [linD r7]) (tya_cons (ty_rgT (n := 7) (Ty.is (ty_op (ty_var rfl) ty_int opt_add) rfl) (by decide)) tya_nil) (by decide)) (ty_var rfl) (opt_repI (by omega) (by omega) (by decide))) (by unfold linesD; rw [Int.toNat_natCast, rep_lines])) tya_nil)
  refine tys_seqE (tys_set (ty_slU (n := many + 1) (ty_call ((lotsI (List.replicate n r7)).map intsD) (by show (List.map intsD _).length ≤ 1000; rw [List.length_map]; exact Nat.le_trans (lots_49 n hn) (by decide)) (tya_cons (ty_var rfl) (tya_cons lots tya_nil))) (ty_call (many + 1) ⟨by omega, by omega⟩ (tya_cons (ty_var rfl) (tya_cons (Ty.is (ty_op (ty_var rfl) ty_int opt_add) rfl) tya_nil))))) ?_
  refine TyS.openX (n := 4) rfl fun ms => TyS.openG (n := 4) rfl fun hms => ?_
  obtain ⟨m0, k, pm, hk, rfl⟩ := hms
  obtain ⟨L, rfl, pL⟩ := perm_map pm
  rw [← List.map_take]
  show TyS W [some bx, some (dt K (.int (n : Nat))), some (dt K (.int 6)), some (dt K (.int (many : Nat))), some (dt K (tupsL (L.take k))), none] _ _ _ _ _
  have inL : ∀ t ∈ L.take k, t.length = n ∧ TS.Bd 7 t := fun t ht => lots_each hn (pL.mem_iff.mp (List.mem_of_mem_take ht))
  have nd : (L.take k).Nodup := List.Nodup.sublist (List.take_sublist _ _) (pL.nodup_iff.mpr (lots_nodup n hn))
  have few : (L.take k).length ≤ 49 := by
    rw [List.length_take]
    have z := pL.length_eq
    have y := lots_49 n hn
    omega
  refine TyS.never (tys_retW (ty_lcX (ty_sortLT inL hn nd (by omega) (ty_var rfl)) fun ls v hls => ?_))
  have len : ls.length ≤ 49 := by rw [hls.2.length_eq]; exact few
  have hi : TyI (Wd.kn W v (dt K (tupsL ls))) [some bx, some (dt K (.int (n : Nat))), some (dt K (.int 6)), some (dt K (.int (many : Nat))), some (dt K (tupsL (L.take k))), none] (iList K (tC v)) (ls.map fun d => dt K (intsD d)) := tyi_lstA (f := intsD) ty_kn
  refine (ty_tupOf (K := K) (tyl_map (fun d : List Int => dt K (intsD d)) (fun d => exT fun i : Int => gd (Whl i) (dt K (termD (d, i)))) hi (by omega) (by decide) fun W' d hd => ?_)).sub fun v H _ z => ?_
  · refine (ty_tup (K := K) (Ts := [dt K (intsD d), inT K Whl]) (tya_cons (ty_var rfl) (tya_cons (ty_call () trivial (tya_cons (ty_var rfl) tya_nil)) tya_nil)) (by show 2 ≤ 1000000; decide)).sub fun v H _ z => ?_
    obtain ⟨a, xs, rfl, h1, h2⟩ := z
    match xs, h2 with
    | [x, y], ⟨h3, ⟨i, hi, h4⟩, _⟩ => exact ⟨i, hi, .tup h1 (.cons h3 (.cons h4 .nil))⟩
  · obtain ⟨a, xs, rfl, h1, h2⟩ := z
    obtain ⟨l, rfl, h4, h5⟩ := tys_terms h2
    refine ⟨l, ⟨⟨fun t ht => ?_, hls.1⟩, by rw [List.length_map] at len; exact len, fun t ht => (h4 t ht).2⟩, .tup h1 h5⟩
    have z := inL t.1 (hls.2.mem_iff.mp (List.mem_map.mpr ⟨t, ht, rfl⟩))
    exact ⟨z.1, z.2, (h4 t ht).1⟩
end
section
variable {P : Program} {w : World} {K : PySem.W.Frag} {mg : Str → Option Value} {base : Heap}
/-- something fine -/
def fT (K : PySem.W.Frag) (n : Nat) : Typ := exT fun d : PyData => gd (fine n d) (dt K d)
/-- a tuple of m such at most -/
def tT (K : PySem.W.Frag) (n m : Nat) : Typ := exT fun ds : List PyData => gd (ds.length ≤ m ∧ ∀ d ∈ ds, fine n d) (dt K (.tuple ds))
section
variable {W : Wd} {Γ : Gam} {K : PySem.W.Frag} {te ta tb : TE} {tl : TA} {n m a b : Nat} {d : PyData} {ds : List PyData}
theorem ft_of (h : Ty W Γ te (dt K d)) (k : fine n d) : Ty W Γ te (fT K n) := h.sub fun v H _ z => ⟨d, k, z⟩
theorem ft_up (h : Ty W Γ te (fT K n)) : Ty W Γ te (fT K (n + 1)) := h.sub fun v H _ ⟨d, k, z⟩ => ⟨d, fine_up k, z⟩
theorem tt_ft (h : Ty W Γ te (tT K n m)) (hm : m < 60) : Ty W Γ te (fT K (n + 1)) := h.sub fun v H _ ⟨ds, k, z⟩ => ⟨.tuple ds, ⟨Nat.lt_of_le_of_lt k.1 hm, k.2⟩, z⟩
theorem tt_of (h : Ty W Γ te (dt K (.tuple ds))) (k : ds.length ≤ m) (f : ∀ d ∈ ds, fine n d) : Ty W Γ te (tT K n m) := h.sub fun v H _ z => ⟨ds, ⟨k, f⟩, z⟩
theorem tt_cat (ha : Ty W Γ ta (tT K n a)) (hb : Ty W Γ tb (tT K n b)) (hz : a + b ≤ 1000) : Ty W Γ (tOp (rAddA K) ta tb) (tT K n (a + b)) := ty_op ha hb fun u v H c ⟨ds, hd, hu⟩ ⟨es, he, hv⟩ Q q =>
  opt_catT (by omega) u v H c hu hv Q fun w H1 e z => q w H1 e ⟨ds ++ es, ⟨by rw [List.length_append]; omega, fun x hx => (List.mem_append.mp hx).elim (hd.2 x) (he.2 x)⟩, z⟩
theorem tys_fT {M B : Addr → Prop} {H : Hp} : ∀ {k : Nat} {xs : List V}, TysV M B (List.replicate k (fT K n)) xs H → ∃ ds : List PyData, ds.length = k ∧ (∀ d ∈ ds, fine n d) ∧ RpA M K H xs ds
  | 0, [], _ => ⟨[], rfl, fun _ z => (by cases z), .nil⟩
  | k + 1, x :: xs, h => by
    obtain ⟨⟨d, hd, h1⟩, h2⟩ := h
    obtain ⟨ds, h3, h4, h5⟩ := tys_fT (k := k) h2
    exact ⟨d :: ds, by rw [List.length_cons, h3], fun x hx => (List.mem_cons.mp hx).elim (fun e => by rw [e]; exact hd) (h4 x), .cons h1 h5⟩
  | 0, _ :: _, h => h.elim
  | _ + 1, [], h => h.elim
theorem tt_tup (k : Nat) (h : TyA W Γ tl (List.replicate k (fT K n))) (hk : k ≤ 1000) : Ty W Γ (tTup tl) (tT K n k) := (ty_tup (K := K) h (by rw [List.length_replicate]; omega)).sub fun v H _ ⟨a, xs, e, h1, h2⟩ => by
  obtain ⟨ds, h3, h4, h5⟩ := tys_fT h2
  exact ⟨ds, ⟨by omega, h4⟩, e ▸ .tup h1 h5⟩
theorem tt_1 (h : Ty W Γ te (fT K n)) : Ty W Γ (tTup (tCons te tNil)) (tT K n 1) := tt_tup 1 (tya_cons h tya_nil) (by decide)
theorem tt_2 (h : Ty W Γ ta (fT K n)) (k : Ty W Γ tb (fT K n)) : Ty W Γ (tTup (tCons ta (tCons tb tNil))) (tT K n 2) := tt_tup 2 (tya_cons h (tya_cons k tya_nil)) (by decide)
theorem tt_0 : Ty W Γ (tTup tNil) (tT K n 0) := tt_tup 0 tya_nil (by decide)
/-- a list, no lists in it -/
theorem ft_list (h : Ty W Γ te (dt K (.list ds))) (k : ds.length < 60) (f : ∀ d ∈ ds, fine n d ∧ noL n d) : Ty W Γ te (fT K (n + 1)) := ft_of h ⟨k, f⟩
theorem listOf (h : Ty W Γ te (dt K (.tuple ds))) : Ty W Γ (tCB (rLstOf K) (tCons te tNil)) (dt K (.list ds)) := (tyl_cb (tya_cons (h.sub fun _ _ _ => data_tupT) tya_nil) cbl_lstT).data
theorem ft_list1 {i : Int} (h : Ty W Γ te (dt K (.int i))) (hb : bd 200 i) : Ty W Γ (tLst (tCons te tNil)) (fT K (n + 2)) := ft_list (ds := [.int i]) (ty_lstD (ds := [.int i]) (tya_cons h tya_nil) (by show 1 ≤ 1000000; decide)) (by show 1 < 60; decide) fun d hd => by
  rw [List.mem_singleton.mp hd]
  exact ⟨hb, trivial⟩
theorem ft_nil : Ty W Γ (tLst tNil) (fT K (n + 1)) := ft_list (ds := []) (ty_lstD (ds := []) tya_nil (by decide)) (by decide) fun d hd => by cases hd
theorem ft_dict : Ty W Γ tDNewK (fT K (n + 1)) := ft_of (d := .dict []) (fun σ H c g Q q => fun p hp => q _ _ (Ex.new hp) (.dic upd_same .nil)) rfl
theorem ft_int {i : Int} (h : Ty W Γ te (dt K (.int i))) (hb : bd 200 i) : Ty W Γ te (fT K (n + 1)) := ft_of h hb
theorem ft_bl {c : Bool} : Ty W Γ (tC (.bl c)) (fT K (n + 1)) := ft_of (ty_bl (b := c)) trivial
theorem ft_non : Ty W Γ (tC .non) (fT K (n + 1)) := ft_of (ty_non (K := K)) trivial
theorem ft_str {x : Str} (h : x.length ≤ 100) : Ty W Γ (tC (.str x)) (fT K (n + 1)) := ft_of (ty_str (K := K) (x := x)) h
/-- found = [..], a list of one's own -/
theorem tys_ownS {Ts : List Typ} {i : Nat} {tw : TS} {N : Sx → Hp → Prop} {R : V → Hp → Prop} {Bk Ct : Sx → Hp → Prop} (h : TyA W Γ tl Ts) (hz : Ts.length ≤ 1000000) (hb : ∀ D (nb : ¬ W.B D), ¬ W.M D → TyS (W.own D nb Ts) (Γ.set i (some (isV (.ref D)))) tw N R noN noN) : TyS W Γ (tSeq (tAsg (tLst tl) (gName i)) tw) N R Bk Ct := fun σ H c g E dn dr db dc =>
  h σ H c g _ fun vs H0 e0 hv => ⟨by rw [hv.length]; exact sz_le hz, fun p h0 => by
    have e1 : Ex W.B H0 (upd H0 p (.lst vs)) := Ex.new h0
    have hp : H p = none := e0.free h0
    have e := e0.trans e1
    have nm : ¬ W.M p := c.nm hp
    have nb : ¬ W.B p := c.nb hp
    have c1 := c.up e
    have h1 : (upd H0 p (.lst vs)) p = some (.lst vs) := upd_same
    have h2 : TysV (Ew.ad W.M p) W.B Ts vs (upd H0 p (.lst vs)) := (hv.weak h0).up (e1.toM fun a h => .inl (W.sub a h))
    generalize hH : upd H0 p (.lst vs) = H1 at e1 e c1 h1 h2
    have c2 : Cxt (W.own p nb Ts) H1 := ⟨c1.box, fun a z => z.elim (c1.al a) (fun w => by rw [w, h1]; intro q; cases q), c1.ex, ⟨H, c.own, hp, e⟩, c.ex.free hp, vs, h1, h2⟩
    have g1 : EnvL (Ew.ad W.M p) W.B Γ σ H1 := (EnvL.weak hp g).up (e.toM fun a h => .inl (W.sub a h))
    exact hb p nb nm _ H1 c2 (EnvL.set (T := isV (.ref p)) rfl g1) E (fun σ' H' e' n => dn σ' H' (Exm.less e e' W.sub hp) n) dr (fun _ _ _ z => z.elim) (fun _ _ _ z => z.elim)⟩
theorem rep_get {T T' : Typ} {k i : Nat} (h : (List.replicate k T)[i]? = some T') : T' = T := by
  rw [List.getElem?_replicate] at h
  split at h
  · exact (Option.some.inj h).symm
  · cases h
end
theorem fine_ints' {n : Nat} {ns : List Int} (hl : ns.length < 60) (h : ∀ i ∈ ns, bd 200 i) : fine (n + 2) (intsD ns) ∧ noL (n + 2) (intsD ns) :=
  ⟨⟨by rw [List.length_map]; exact hl, fun d hd => by
    obtain ⟨i, hi, rfl⟩ := List.mem_map.mp hd
    exact h i hi⟩, fun d hd => by
    obtain ⟨i, hi, rfl⟩ := List.mem_map.mp hd
    trivial⟩
theorem fine_term {n k : Nat} {t : Term} (hk : k ≤ 2) (h : TermOk k t) (hb : bd 200 t.2) : fine (n + 3) (termD t) ∧ noL (n + 3) (termD t) := by
  obtain ⟨a1, a2⟩ := fine_ints' (n := n) (ns := t.1) (by rw [h.len]; omega) fun i hi => bd_small (by have := h.bd i hi; omega)
  refine ⟨⟨by show 2 < 60; decide, fun d hd => ?_⟩, fun d hd => ?_⟩
  · rcases List.mem_cons.mp hd with rfl | hd
    · exact a1
    · rw [List.mem_singleton.mp hd]; exact hb
  · rcases List.mem_cons.mp hd with rfl | hd
    · exact a2
    · rw [List.mem_singleton.mp hd]; trivial
theorem fine_pol {n k : Nat} {l : List Term} (hk : k ≤ 2) (h : PolD k l) : fine (n + 4) (polD l) := ⟨by rw [List.length_map]; have := h.few; omega, fun d hd => by
  obtain ⟨t, ht, rfl⟩ := List.mem_map.mp hd
  exact (fine_term hk (h.ok.ok t ht) (h.bd t ht)).1⟩
theorem lay_terms : ∀ l : List Term, PyData.canLayAll0 (l.map termD) = true ∧ PyData.depthAll (l.map termD) ≤ 2
  | [] => ⟨rfl, by simp [PyData.depthAll]⟩
  | t :: l => by
    obtain ⟨k1, k2⟩ := lay_terms l
    obtain ⟨h1, h2⟩ := lay_whole (all_whole t.1)
    refine ⟨?_, ?_⟩
    · rw [List.map_cons, PyData.canLayAll0, k1]
      simp [termD, intsD, PyData.canLay0, PyData.canLayAll0, h1]
    · rw [List.map_cons, PyData.depthAll]
      refine Nat.max_le.mpr ⟨?_, k2⟩
      simp [termD, intsD, PyData.depth, PyData.depthAll, h2]
theorem shaped_pol (l : List Term) : SeqAt.shaped (polD l) = true := by
  obtain ⟨k1, k2⟩ := lay_terms l
  unfold SeqAt.shaped polD
  rw [PyData.canLay0, k1, PyData.depth, Bool.true_and]
  exact decide_eq_true (by omega)
/-- not the empty one -/
theorem opt_neP {W : Wd} {K : PySem.W.Frag} {l : List Term} : OpT W (rNeA K) (dt K (polD l)) (dt K (.tuple [])) (dt K (.bool (!decide (l = [])))) := by
  have z := opt_neD (W := W) (K := K) (shaped_pol l) (show SeqAt.shaped (.tuple []) = true from rfl)
  unfold polD at z
  rw [eqv_nil, List.length_map, decide_eq_decide.mpr (show l.length = 0 ↔ l = [] from List.length_eq_zero_iff)] at z
  exact z
/-- the polynomial, or one in its stead -/
theorem ty_whole {W : Wd} {Γ : Gam} {K : PySem.W.Frag} {te tb : TE} {l : List Term} {n : Nat} {c : Int} (hn : n ≤ 2) (hl : PolD n l) (hc : c ≠ 0) (hb : bd 200 c) (h : Ty W Γ te (dt K (polD l))) (hi : Ty W Γ tb (dt K (.int (n : Nat)))) :
    Ty W Γ (tIf (tTest (tOp (rNeA K) te (tTup tNil))) te (tTup (tCons (tTup (tCons (tOp (rRepAll K) (tTup (tCons (tC (.int 0)) tNil)) tb) (tCons (tC (.int c)) tNil))) tNil))) (exT fun l' : List Term => gd (PolD n l' ∧ l' ≠ [] ∧ (l ≠ [] → l' = l)) (dt K (polD l'))) :=
  ty_if (φ := (· = !decide (l = []))) (tt_test (ty_op h (ty_tupD (ds := []) tya_nil (by decide)) opt_neP)) (fun z => h.sub fun v H _ y => ⟨l, ⟨hl, fun e => (by rw [e] at z; simp at z), fun _ => rfl⟩, y⟩) fun z => by
    have e : l = [] := by simpa using z
    have zero : ∀ k : Nat, k ≤ 2 → (List.replicate k [PyData.int 0]).flatten = (List.replicate k (0 : Int)).map .int := fun k hk => by
      match k, hk with
      | 0, _ => rfl
      | 1, _ => rfl
      | 2, _ => rfl
    refine (ty_tupD (ds := [termD (List.replicate n 0, c)]) (tya_cons (ty_tupD (ds := [intsD (List.replicate n 0), .int c]) (tya_cons (Ty.is (ty_op (ty_tupD (ds := [.int 0]) (tya_cons ty_int tya_nil) (by show 1 ≤ 1000000; decide)) hi (opt_repAll (by omega) (by omega) (by simp) (by show 1 ≤ 1000; decide))) (by rw [Int.toNat_natCast, zero n hn]; rfl)) (tya_cons ty_int tya_nil)) (by show 2 ≤ 1000000; decide)) tya_nil) (by show 1 ≤ 1000000; decide)).sub fun v H _ y => ⟨[(List.replicate n 0, c)], ⟨⟨⟨fun t ht => ?_, List.pairwise_singleton _ _⟩, by show 1 ≤ 49; decide, fun t ht => ?_⟩, by simp, fun q => absurd e q⟩, y⟩
    · rw [List.mem_singleton.mp ht]
      exact ⟨List.length_replicate, fun m hm => by rw [(List.mem_replicate.mp hm).2]; decide, hc⟩
    · rw [List.mem_singleton.mp ht]; exact hb
def sp_law_bent (K : PySem.W.Frag) : Sp := spT (fun x : List Term × Nat => PolD x.2 x.1 ∧ x.2 ≤ 2) (fun x => [bx, dt K (polD x.1), dt K (.int (x.2 : Nat))]) (fun x => exT fun ds : List PyData => gd (ds.length ≤ 100 ∧ ∀ d ∈ ds, fine 6 d) (dt K (.list ds)))
theorem ok_law_bent (T : Tx P K mg) : FnOk P w K mg base (L2.CX P w) 2 T.a_law_bent T.f_law_bent ["box", "polynomial", "items"] (sp_law_bent K) := by
  have G_law_take := ok_law_take (w := w) (base := base) T
  have nd := sc_law_bent.nd
  refine fn_ty T.F_law_bent sc_law_bent (fun x _ => rfl) fun cdv Ar outer s H E hr => ⟨_, (pss_cons (pset 3 nd (pe_ifExp (pt_cmpR (k_ne (K := K) rfl hr.units) (pv 1) (pe_tup pa_nil) (nomark _)) (pv 1) (pe_tup (pa_cons (pe_tup (pa_cons (pe_op (k_repAll (K := K) rfl) (pe_tup (pa_cons pe_int pa_nil)) (pv 2)) (pa_cons pe_int pa_nil))) pa_nil))))
    (pss_cons (pset 4 nd (pcall G_law_take (hr.mono (by decide)) T.D_law_take (pa_cons (pv 0) (pa_cons (k_len (K := K) rfl T.m_len (pa_cons (pv 3) pa_nil)) pa_nil))))
    (pss_cons (ps_asg (pe_ix (k_ix (K := K) rfl) (pv 3) (pv 4) (fun _ _ => rfl)) (k_gtup (K := K) (n := 2) rfl (pgs_cons (pgn 5 nd) (pgs_cons (pgn 6 nd) pgs_nil))))
    (pss_cons (ps_par (i := 7) (j := 8) rfl nd rfl rfl (by decide) rfl rfl (pa_cons (pe_slice (k_sl (K := K) rfl) (pv 3) po_none (po_some (pv 4))) (pa_cons (pe_slice (k_sl (K := K) rfl) (pv 3) (po_some (pe_op (k_add (K := K) rfl) (pv 4) pe_int)) po_none) pa_nil)) (by rfl))
    (pss_cons (pset 9 nd (pe_lst (pa_cons (k_list (K := K) rfl T.m_list (pa_cons (pv 3) pa_nil)) (pa_cons (k_revT (K := K) rfl (pv 3)) (pa_cons (pe_op (k_add (K := K) rfl) (pv 3) (pe_slice (k_sl (K := K) rfl) (pv 3) (po_some (pe_un un_neg pe_int)) po_none)) (pa_cons (pe_op (k_add (K := K) rfl) (pe_slice (k_sl (K := K) rfl) (pv 3) po_none (po_some pe_int)) (pv 3)) (pa_cons (pe_op (k_add (K := K) rfl) (pv 7) (pv 8)) (pa_cons (pe_op (k_add (K := K) rfl) (pv 3) (pe_tup (pa_cons pe_non pa_nil))) (pa_cons (pe_tup (pa_cons (pv 3) pa_nil)) (pa_cons (pe_op (k_add (K := K) rfl) (pe_op (k_add (K := K) rfl) (pv 7) (pe_tup (pa_cons (k_list (K := K) rfl T.m_list (pa_cons (pe_ix (k_ix (K := K) rfl) (pv 3) (pv 4) (fun _ _ => rfl)) pa_nil)) pa_nil))) (pv 8)) pa_nil))))))))))
    (pss_cons (ps_for PassesOwn.never rfl (k_ilist (K := K) rfl (pe_lst (pa_cons pe_int (pa_cons pe_bl (pa_cons pe_bl (pa_cons pe_non (pa_cons pe_str (pa_cons (pe_tup (pa_cons (pv 6) pa_nil)) (pa_cons (pe_lst (pa_cons (pv 6) pa_nil)) (pa_cons (pe_un un_neg (pv 6)) (pa_cons (pe_op op_pow pe_int pe_int) pa_nil))))))))))) (pgn 10 nd) (pss_one (ps_expr (k_append (K := K) rfl (pv 9) (pa_cons (pe_op (k_add (K := K) rfl) (pe_op (k_add (K := K) rfl) (pv 7) (pe_tup (pa_cons (pe_tup (pa_cons (pv 5) (pa_cons (pv 10) pa_nil))) pa_nil))) (pv 8)) pa_nil)))))
    (pss_cons (ps_for PassesOwn.never rfl (k_ilist (K := K) rfl (pe_lst (pa_cons (k_list (K := K) rfl T.m_list (pa_cons (pv 5) pa_nil)) (pa_cons (pe_op (k_add (K := K) rfl) (pv 5) (pe_tup (pa_cons pe_int pa_nil))) (pa_cons (pe_slice (k_sl (K := K) rfl) (pv 5) (po_some pe_int) po_none) (pa_cons pe_non (pa_cons pe_int (pa_cons pe_str (pa_cons pe_dnewK pa_nil))))))))) (pgn 10 nd) (pss_one (ps_expr (k_append (K := K) rfl (pv 9) (pa_cons (pe_op (k_add (K := K) rfl) (pe_op (k_add (K := K) rfl) (pv 7) (pe_tup (pa_cons (pe_tup (pa_cons (pv 10) (pa_cons (pv 6) pa_nil))) pa_nil))) (pv 8)) pa_nil)))))
    (pss_cons (pset 11 nd (pcall G_law_take (hr.mono (by decide)) T.D_law_take (pa_cons (pv 0) (pa_cons (bi_max2 T.m_max (pa_cons pe_int (pa_cons (pv 2) pa_nil))) pa_nil))))
    (pss_cons (ps_for PassesOwn.never rfl (k_ilist (K := K) rfl (pe_ifExp (pt_cmpR op_gt (pv 2) pe_int (nomark _)) (pe_lst (pa_cons (pe_un un_neg pe_int) (pa_cons pe_int (pa_cons pe_bl (pa_cons pe_non (pa_cons pe_str (pa_cons (pe_tup (pa_cons pe_int pa_nil)) (pa_cons pe_int (pa_cons pe_int pa_nil))))))))) (pe_lst pa_nil))) (pgn 10 nd) (pss_one (ps_expr (k_append (K := K) rfl (pv 9) (pa_cons (pe_op (k_add (K := K) rfl) (pe_op (k_add (K := K) rfl) (pv 7) (pe_tup (pa_cons (pe_tup (pa_cons (pe_op (k_add (K := K) rfl) (pe_op (k_add (K := K) rfl) (pe_slice (k_sl (K := K) rfl) (pv 5) po_none (po_some (pv 11))) (pe_tup (pa_cons (pv 10) pa_nil))) (pe_slice (k_sl (K := K) rfl) (pv 5) (po_some (pe_op (k_add (K := K) rfl) (pv 11) pe_int)) po_none)) (pa_cons (pv 6) pa_nil))) pa_nil))) (pv 8)) pa_nil)))))
    (pss_one (ps_ret (pe_op (k_add (K := K) rfl) (pv 9) (pe_lst (pa_cons (pe_op (k_add (K := K) rfl) (pe_op (k_add (K := K) rfl) (pv 7) (pe_tup (pa_cons (pe_tup (pa_cons (pv 5) (pa_cons (pv 6) (pa_cons pe_int pa_nil)))) pa_nil))) (pv 8)) (pa_cons (pe_op (k_add (K := K) rfl) (pe_op (k_add (K := K) rfl) (pv 7) (pe_tup (pa_cons (pe_tup (pa_cons (pv 5) pa_nil)) pa_nil))) (pv 8)) (pa_cons pe_non (pa_cons pe_int (pa_cons pe_str (pa_cons pe_dnewK (pa_cons (pe_lst pa_nil) (pa_cons (pe_tup pa_nil) (pa_cons (pe_tup (pa_cons (pe_tup pa_nil) pa_nil)) (pa_cons (pe_tup (pa_cons pe_int pa_nil)) (pa_cons pe_bl (pa_cons (pe_tup (pa_cons (pe_tup (pa_cons (pv 5) (pa_cons (pv 6) pa_nil))) (pa_cons (pv 5) pa_nil))) pa_nil))))))))))))))))))))))))), fun W x hC => ?_⟩
  obtain ⟨l0, n⟩ := x
  obtain ⟨hl0, hn⟩ : PolD n l0 ∧ n ≤ 2 := hC
  show TyS W [some bx, some (dt K (polD l0)), some (dt K (.int (n : Nat))), none, none, none, none, none, none, none, none, none] _ _ _ _ _
  refine tys_seqE (tys_set (ty_whole hn hl0 (by decide) (bd_small (by decide)) (ty_var rfl) (ty_var rfl))) ?_
  refine TyS.openX (n := 3) rfl fun l => TyS.openG (n := 3) rfl fun hl => ?_
  obtain ⟨hl, ne, _⟩ := hl
  have pos : 0 < l.length := List.length_pos_iff.mpr ne
  have few := hl.few
  show TyS W [some bx, some (dt K (polD l0)), some (dt K (.int (n : Nat))), some (dt K (polD l)), none, none, none, none, none, none, none, none] _ _ _ _ _
  refine tys_seqE (tys_set (T := digT K l.length) (ty_call l.length ⟨pos, by omega⟩ (tya_cons (ty_var rfl) (tya_cons (Ty.is (ty_cb (tya_cons (ty_var (T := dt K (.tuple (l.map termD))) rfl) tya_nil) cbt_lenT) (by rw [List.length_map])) tya_nil)))) ?_
  refine TyS.openX (n := 4) rfl fun at_ => TyS.openG (n := 4) rfl fun hat => ?_
  obtain ⟨t, ht⟩ : ∃ t, l[at_]? = some t := ⟨_, List.getElem?_eq_getElem hat⟩
  have tm := List.mem_of_getElem? ht
  have tok := hl.ok.ok t tm
  have tbd := hl.bd t tm
  have it : ∀ (W' : Wd) (Γ : Gam), Γ[3]? = some (some (dt K (.tuple (l.map termD)))) → Γ[4]? = some (some (dt K (.int (at_ : Nat)))) → Ty W' Γ (tOp (rIx K) (tVar 3) (tVar 4)) (dt K (termD t)) := fun W' Γ h3 h4 => ty_op (ty_var h3) (ty_var h4) (opt_ixTN (by rw [List.getElem?_map, ht]; rfl))
  show TyS W [some bx, some (dt K (polD l0)), some (dt K (.int (n : Nat))), some (dt K (polD l)), some (dt K (.int (at_ : Nat))), none, none, none, none, none, none, none] _ _ _ _ _
  refine tys_seqE (W' := W) (Γ' := [some bx, some (dt K (polD l0)), some (dt K (.int (n : Nat))), some (dt K (polD l)), some (dt K (.int (at_ : Nat))), some (dt K (intsD t.1)), some (dt K (.int t.2)), none, none, none, none, none]) (tys_asg (it _ _ rfl rfl) (TyG.sub (tyg_pair (i := 5) (k := 6)) fun v H z => data_tupT (ds := [intsD t.1, .int t.2]) z)) ?_
  refine tys_seqE (W' := W) (Γ' := [some bx, some (dt K (polD l0)), some (dt K (.int (n : Nat))), some (dt K (polD l)), some (dt K (.int (at_ : Nat))), some (dt K (intsD t.1)), some (dt K (.int t.2)), some (dt K (.tuple (cutD (l.map termD) none (some (at_ : Nat))))), some (dt K (.tuple (cutD (l.map termD) (some ((at_ : Int) + 1)) none))), none, none, none]) (tys_par (tya_cons (ty_slT (ty_var rfl) tyo_none (tyo_some (ty_var rfl))) (tya_cons (ty_slT (ty_var rfl) (tyo_some (ty_op (ty_var rfl) ty_int opt_add)) tyo_none) tya_nil))) ?_
  have cutIn : ∀ {lo hi : Option Int} {d : PyData}, d ∈ cutD (l.map termD) lo hi → ∃ t ∈ l, d = termD t := fun {lo hi d} h => by
    obtain ⟨t, h1, h2⟩ := List.mem_map.mp (List.mem_of_mem_drop (List.mem_of_mem_take h))
    exact ⟨t, h1, h2.symm⟩
  have cutLen : ∀ (lo hi : Option Int), (cutD (l.map termD) lo hi).length ≤ 49 := fun lo hi => by
    unfold cutD
    rw [List.length_take, List.length_drop, List.length_map]
    omega
  have lenA : (cutD (l.map termD) none (some (at_ : Int))).length ≤ 49 := cutLen _ _
  have fineT : ∀ {k : Nat} {t : Term}, t ∈ l → fine (k + 3) (termD t) ∧ noL (k + 3) (termD t) := fun {k t} h => fine_term hn (hl.ok.ok t h) (hl.bd t h)
  -- what the slots give
  have gW : ∀ (W' : Wd) (Γ : Gam), Γ[3]? = some (some (dt K (.tuple (l.map termD)))) → Ty W' Γ (tVar 3) (tT K 5 49) := fun W' Γ h => tt_of (ty_var h) (by rw [List.length_map]; exact few) fun d hd => by
    obtain ⟨t, h1, rfl⟩ := List.mem_map.mp hd
    exact (fineT (k := 2) h1).1
  have lenB : (cutD (l.map termD) none (some (at_ : Int))).length + (cutD (l.map termD) (some ((at_ : Int) + 1)) none).length ≤ 48 := by
    unfold cutD
    rw [List.length_take, List.length_drop, List.length_take, List.length_drop, List.length_map]
    have e1 : HT.sIx l.length l.length (some (at_ : Int)) = at_ := by rw [HT.sIx_nat]; omega
    have e2 : HT.sIx l.length 0 (some ((at_ : Int) + 1)) = at_ + 1 := by rw [show ((at_ : Int) + 1) = ((at_ + 1 : Nat) : Int) from rfl, HT.sIx_nat]; omega
    rw [e1, e2]
    show min (at_ - 0) (l.length - 0) + min (l.length - (at_ + 1)) (l.length - (at_ + 1)) ≤ 48
    omega
  have around : ∀ (W' : Wd) (Γ : Gam) (te : TE), Γ[7]? = some (some (dt K (.tuple (cutD (l.map termD) none (some (at_ : Int)))))) → Γ[8]? = some (some (dt K (.tuple (cutD (l.map termD) (some ((at_ : Int) + 1)) none)))) → Ty W' Γ te (fT K 5) → Ty W' Γ (tOp (rAddA K) (tOp (rAddA K) (tVar 7) (tTup (tCons te tNil))) (tVar 8)) (fT K 6) := fun W' Γ te h7 h8 h => by
    have a7 : Ty W' Γ (tVar 7) (tT K 5 (cutD (l.map termD) none (some (at_ : Int))).length) := tt_of (ty_var h7) (Nat.le_refl _) fun d hd => by
      obtain ⟨t, h1, rfl⟩ := cutIn hd
      exact (fineT (k := 2) h1).1
    have a8 : Ty W' Γ (tVar 8) (tT K 5 (cutD (l.map termD) (some ((at_ : Int) + 1)) none).length) := tt_of (ty_var h8) (Nat.le_refl _) fun d hd => by
      obtain ⟨t, h1, rfl⟩ := cutIn hd
      exact (fineT (k := 2) h1).1
    exact tt_ft (tt_cat (tt_cat a7 (tt_1 h) (by omega)) a8 (by omega)) (by omega)
  have dg : ∀ (k : Nat), fine (k + 2) (intsD t.1) ∧ noL (k + 2) (intsD t.1) := fun k => fine_ints' (by rw [tok.len]; omega) fun i hi => bd_small (by have := tok.bd i hi; omega)
  have step : ∀ {Bk Ct : Sx → Hp → Prop} (W' : Wd) (Γ : Gam) (D : Addr) (nb : ¬ W'.B D) (k : Nat) (te : TE) (hg : Γ[9]? = some (some (isV (.ref D)))) (hk : k ≤ 100), Ty (W'.own D nb (List.replicate k (fT K 6))) Γ te (fT K 6) → TyS (W'.own D nb (List.replicate k (fT K 6))) Γ (tDrop (tBM K "list" rAppend (tVar 9) (tCons te tNil))) (nE (W'.own D nb (List.replicate (k + 1) (fT K 6))) Γ) (rW W (exT fun ds : List PyData => gd (ds.length ≤ 100 ∧ ∀ d ∈ ds, fine 6 d) (dt K (.list ds)))) Bk Ct := fun {Bk Ct} W' Γ D nb k te hg hk h => by
    rw [List.replicate_succ']
    exact tys_append hg h (by rw [List.length_replicate]; omega)
  have T6 := fT K 6
  have g8 : ∀ (W' : Wd) (Γ : Gam), Γ[6]? = some (some (dt K (.int t.2))) → ∀ k, Ty W' Γ (tVar 6) (fT K (k + 1)) := fun W' Γ h k => ft_int (ty_var h) tbd
  have gD : ∀ (W' : Wd) (Γ : Gam), Γ[5]? = some (some (dt K (intsD t.1))) → ∀ k, Ty W' Γ (tVar 5) (fT K (k + 2)) := fun W' Γ h k => ft_of (ty_var h) (dg k).1
  have lenD : t.1.length ≤ 2 := by rw [tok.len]; exact hn
  have slD : ∀ (W' : Wd) (Γ : Gam) (tl th : TO) (lo hi : Option Int), Γ[5]? = some (some (dt K (intsD t.1))) → TyO W' Γ tl lo → TyO W' Γ th hi → ∀ k, Ty W' Γ (tSl (rSlAll K) (tVar 5) tl th) (tT K (k + 1) 2) := fun W' Γ tl th lo hi h h1 h2 k => tt_of (ty_slT (ty_var h) h1 h2) (by unfold cutD; rw [List.length_take, List.length_drop, List.length_map]; omega) fun d hd => by
    obtain ⟨i, hi, rfl⟩ := List.mem_map.mp (List.mem_of_mem_drop (List.mem_of_mem_take hd))
    exact bd_small (by have := tok.bd i hi; omega)
  have last1 : (cutD (l.map termD) (some (-1)) none).length ≤ 1 := by
    unfold cutD
    rw [List.length_take, List.length_drop, List.length_map]
    have e1 : HT.sIx l.length 0 (some (-1)) = l.length - 1 := by
      unfold HT.sIx
      simp
      omega
    rw [e1]
    omega
  have first1 : (cutD (l.map termD) none (some 1)).length ≤ 1 := by
    unfold cutD
    rw [List.length_take]
    have e1 : HT.sIx (l.map termD).length (l.map termD).length (some 1) ≤ 1 := by
      rw [show (1 : Int) = ((1 : Nat) : Int) from rfl, HT.sIx_nat]
      omega
    omega
  have cT : ∀ (W' : Wd) (Γ : Gam) (tl th : TO) (lo hi : Option Int) (m : Nat), Γ[3]? = some (some (dt K (.tuple (l.map termD)))) → TyO W' Γ tl lo → TyO W' Γ th hi → (cutD (l.map termD) lo hi).length ≤ m → Ty W' Γ (tSl (rSlAll K) (tVar 3) tl th) (tT K 5 m) := fun W' Γ tl th lo hi m h h1 h2 hm => tt_of (ty_slT (ty_var h) h1 h2) hm fun d hd => by
    obtain ⟨t, h1, rfl⟩ := cutIn hd
    exact (fineT (k := 2) h1).1
  refine TyS.never (tys_ownS (Ts := List.replicate 8 (fT K 6)) (tya_cons ?e1 (tya_cons ?e2 (tya_cons ?e3 (tya_cons ?e4 (tya_cons ?e5 (tya_cons ?e6 (tya_cons ?e7 (tya_cons ?e8 tya_nil)))))))) (by rw [List.length_replicate]; decide) fun D nb nm => ?_)
  case e1 =>
    exact ft_list (listOf (ty_var (T := dt K (.tuple (l.map termD))) rfl)) (by rw [List.length_map]; omega) fun d hd => by
      obtain ⟨t, h1, rfl⟩ := List.mem_map.mp hd
      exact fineT (k := 2) h1
  case e2 =>
    exact tt_ft (tt_of (m := 49) (ty_revT (ty_var (T := dt K (.tuple (l.map termD))) rfl)) (by rw [List.length_reverse, List.length_map]; exact few) fun d hd => by
      obtain ⟨t, h1, rfl⟩ := List.mem_map.mp (List.mem_reverse.mp hd)
      exact (fineT (k := 2) h1).1) (by decide)
  case e3 =>
    exact tt_ft (tt_cat (gW _ _ rfl) (cT _ _ _ _ _ _ 1 rfl (tyo_some (ty_un (ty_int (K := K)) unt_neg)) tyo_none last1) (by decide)) (by decide)
  case e4 =>
    exact tt_ft (tt_cat (cT _ _ _ _ _ _ 1 rfl tyo_none (tyo_some (ty_int (K := K))) first1) (gW _ _ rfl) (by decide)) (by decide)
  case e5 =>
    exact tt_ft (tt_cat (tt_of (m := (cutD (l.map termD) none (some (at_ : Int))).length) (ty_var rfl) (Nat.le_refl _) fun d hd => by
      obtain ⟨t, h1, rfl⟩ := cutIn hd
      exact (fineT (k := 2) h1).1) (tt_of (m := (cutD (l.map termD) (some ((at_ : Int) + 1)) none).length) (ty_var rfl) (Nat.le_refl _) fun d hd => by
      obtain ⟨t, h1, rfl⟩ := cutIn hd
      exact (fineT (k := 2) h1).1) (by omega)) (by omega)
  case e6 =>
    exact tt_ft (tt_cat (gW _ _ rfl) (tt_1 ft_non) (by decide)) (by decide)
  case e7 =>
    exact tt_ft (tt_1 (ft_of (ty_var rfl) (fine_pol (n := 1) hn hl))) (by decide)
  case e8 =>
    exact around _ _ _ rfl rfl (ft_list (listOf (it _ _ rfl rfl)) (by show 2 < 60; decide) fun d hd => by
      rcases List.mem_cons.mp hd with rfl | hd
      · exact dg 2
      · rw [List.mem_singleton.mp hd]; exact ⟨tbd, trivial⟩)
  show TyS (W.own D nb (List.replicate 8 (fT K 6))) [some bx, some (dt K (polD l0)), some (dt K (.int (n : Nat))), some (dt K (polD l)), some (dt K (.int (at_ : Nat))), some (dt K (intsD t.1)), some (dt K (.int t.2)), some (dt K (.tuple (cutD (l.map termD) none (some (at_ : Nat))))), some (dt K (.tuple (cutD (l.map termD) (some ((at_ : Int) + 1)) none))), some (isV (.ref D)), none, none] _ _ _ _ _
  have ten : bd 200 ((10 : Int) ^ (39 : Int).toNat) := by
    show (10 ^ 39 : Int).natAbs < 2 ^ 200
    decide +kernel
  refine tys_seqE (W' := W.own D nb (List.replicate 17 (fT K 6))) (Γ' := [some bx, some (dt K (polD l0)), some (dt K (.int (n : Nat))), some (dt K (polD l)), some (dt K (.int (at_ : Nat))), some (dt K (intsD t.1)), some (dt K (.int t.2)), some (dt K (.tuple (cutD (l.map termD) none (some (at_ : Nat))))), some (dt K (.tuple (cutD (l.map termD) (some ((at_ : Int) + 1)) none))), some (isV (.ref D)), none, none]) ?_ ?_
  · refine tys_for (α := Unit) (Ts := List.replicate 9 (fT K 3)) (Wi := fun i _ => W.own D nb (List.replicate (8 + i) (fT K 6))) (Γi := fun _ _ => [some bx, some (dt K (polD l0)), some (dt K (.int (n : Nat))), some (dt K (polD l)), some (dt K (.int (at_ : Nat))), some (dt K (intsD t.1)), some (dt K (.int t.2)), some (dt K (.tuple (cutD (l.map termD) none (some (at_ : Nat))))), some (dt K (.tuple (cutD (l.map termD) (some ((at_ : Int) + 1)) none))), some (isV (.ref D)), none, none]) () ?hi (fun _ _ => ⟨rfl, rfl⟩) (fun σ H g => g) (fun i T' _ hT => ?_) (fun _ σ H g => by rw [List.length_replicate] at g; exact g)
    case hi =>
      exact tyi_lst (TyL.ty (tyl_lst (tya_cons (ft_int ty_int (bd_small (by decide))) (tya_cons ft_bl (tya_cons ft_bl (tya_cons ft_non (tya_cons (ft_str (by decide)) (tya_cons (tt_ft (tt_1 (g8 _ _ rfl 1)) (by decide)) (tya_cons (ft_list1 (ty_var rfl) tbd) (tya_cons (ft_int (ty_un (ty_var rfl) unt_neg) (bd_neg tbd)) (tya_cons (ft_int (ty_op ty_int ty_int (opt_pow ⟨by decide, by decide, by decide⟩)) ten) tya_nil))))))))) (by rw [List.length_replicate]; decide)))
    have hi := (List.getElem?_eq_some_iff.mp hT).1
    rw [List.length_replicate] at hi
    obtain rfl := rep_get hT
    refine ⟨_, tyg_name 10, ?_⟩
    show TyS _ [some bx, some (dt K (polD l0)), some (dt K (.int (n : Nat))), some (dt K (polD l)), some (dt K (.int (at_ : Nat))), some (dt K (intsD t.1)), some (dt K (.int t.2)), some (dt K (.tuple (cutD (l.map termD) none (some (at_ : Nat))))), some (dt K (.tuple (cutD (l.map termD) (some ((at_ : Int) + 1)) none))), some (isV (.ref D)), some (fT K 3), none] _ _ _ _ _
    refine TyS.imp (step _ _ D nb (8 + i) _ rfl (by first | omega | (split at hi <;> omega)) (around _ _ _ rfl rfl (tt_ft (tt_2 (gD _ _ rfl 2) (ft_up (ty_var rfl))) (by decide)))) fun σ H g => ⟨(), g.1, EnvL.less (by exact ⟨fun _ _ _ _ h => h, fun _ _ _ _ h => h, fun _ _ _ _ h => h, fun _ _ _ _ h => h, fun _ _ _ _ h => h, fun _ _ _ _ h => h, fun _ _ _ _ h => h, fun _ _ _ _ h => h, fun _ _ _ _ h => h, fun _ _ _ _ h => h, trivial⟩) g.2⟩
  refine tys_seqE (W' := W.own D nb (List.replicate 24 (fT K 6))) (Γ' := [some bx, some (dt K (polD l0)), some (dt K (.int (n : Nat))), some (dt K (polD l)), some (dt K (.int (at_ : Nat))), some (dt K (intsD t.1)), some (dt K (.int t.2)), some (dt K (.tuple (cutD (l.map termD) none (some (at_ : Nat))))), some (dt K (.tuple (cutD (l.map termD) (some ((at_ : Int) + 1)) none))), some (isV (.ref D)), none, none]) ?_ ?_
  · refine tys_for (α := Unit) (Ts := List.replicate 7 (fT K 4)) (Wi := fun i _ => W.own D nb (List.replicate (17 + i) (fT K 6))) (Γi := fun _ _ => [some bx, some (dt K (polD l0)), some (dt K (.int (n : Nat))), some (dt K (polD l)), some (dt K (.int (at_ : Nat))), some (dt K (intsD t.1)), some (dt K (.int t.2)), some (dt K (.tuple (cutD (l.map termD) none (some (at_ : Nat))))), some (dt K (.tuple (cutD (l.map termD) (some ((at_ : Int) + 1)) none))), some (isV (.ref D)), none, none]) () ?hi (fun _ _ => ⟨rfl, rfl⟩) (fun σ H g => g) (fun i T' _ hT => ?_) (fun _ σ H g => by rw [List.length_replicate] at g; exact g)
    case hi =>
      exact tyi_lst (TyL.ty (tyl_lst (tya_cons (ft_list (listOf (ty_var rfl)) (by rw [List.length_map]; omega) fun d hd => by
        obtain ⟨i, hi, rfl⟩ := List.mem_map.mp hd
        exact ⟨bd_small (by have := tok.bd i hi; omega), trivial⟩) (tya_cons (tt_ft (tt_cat (tt_of (m := 2) (n := 3) (ty_var rfl) (by rw [List.length_map]; exact lenD) fun d hd => (dg 2).1.2 d hd) (tt_1 (ft_int ty_int (bd_small (by decide)))) (by decide)) (by decide)) (tya_cons (tt_ft (slD _ _ _ _ _ _ rfl (tyo_some (ty_int (K := K))) tyo_none 2) (by decide)) (tya_cons ft_non (tya_cons (ft_int ty_int (bd_small (by decide))) (tya_cons (ft_str (by decide)) (tya_cons ft_dict tya_nil))))))) (by rw [List.length_replicate]; decide)))
    have hi := (List.getElem?_eq_some_iff.mp hT).1
    rw [List.length_replicate] at hi
    obtain rfl := rep_get hT
    refine ⟨_, tyg_name 10, ?_⟩
    show TyS _ [some bx, some (dt K (polD l0)), some (dt K (.int (n : Nat))), some (dt K (polD l)), some (dt K (.int (at_ : Nat))), some (dt K (intsD t.1)), some (dt K (.int t.2)), some (dt K (.tuple (cutD (l.map termD) none (some (at_ : Nat))))), some (dt K (.tuple (cutD (l.map termD) (some ((at_ : Int) + 1)) none))), some (isV (.ref D)), some (fT K 4), none] _ _ _ _ _
    refine TyS.imp (step _ _ D nb (17 + i) _ rfl (by first | omega | (split at hi <;> omega)) (around _ _ _ rfl rfl (tt_ft (tt_2 (ty_var rfl) (g8 _ _ rfl 3)) (by decide)))) fun σ H g => ⟨(), g.1, EnvL.less (by exact ⟨fun _ _ _ _ h => h, fun _ _ _ _ h => h, fun _ _ _ _ h => h, fun _ _ _ _ h => h, fun _ _ _ _ h => h, fun _ _ _ _ h => h, fun _ _ _ _ h => h, fun _ _ _ _ h => h, fun _ _ _ _ h => h, fun _ _ _ _ h => h, trivial⟩) g.2⟩
  refine tys_seqE (tys_set (T := digT K (if n = 0 then 1 else n)) (ty_call (if n = 0 then 1 else n) ⟨by split <;> omega, by split <;> omega⟩ (tya_cons (ty_var rfl) (tya_cons (Ty.is (ty_cb (tya_cons ty_int (tya_cons (ty_var rfl) tya_nil)) cbt_max2) (by split <;> split <;> simp <;> omega)) tya_nil)))) ?_
  refine TyS.openX (n := 11) rfl fun pl => TyS.openG (n := 11) rfl fun hpl => ?_
  show TyS (W.own D nb (List.replicate 24 (fT K 6))) [some bx, some (dt K (polD l0)), some (dt K (.int (n : Nat))), some (dt K (polD l)), some (dt K (.int (at_ : Nat))), some (dt K (intsD t.1)), some (dt K (.int t.2)), some (dt K (.tuple (cutD (l.map termD) none (some (at_ : Nat))))), some (dt K (.tuple (cutD (l.map termD) (some ((at_ : Int) + 1)) none))), some (isV (.ref D)), none, some (dt K (.int (pl : Nat)))] _ _ _ _ _
  refine tys_seqE (W' := W.own D nb (List.replicate (24 + if 0 < n then 8 else 0) (fT K 6))) (Γ' := [some bx, some (dt K (polD l0)), some (dt K (.int (n : Nat))), some (dt K (polD l)), some (dt K (.int (at_ : Nat))), some (dt K (intsD t.1)), some (dt K (.int t.2)), some (dt K (.tuple (cutD (l.map termD) none (some (at_ : Nat))))), some (dt K (.tuple (cutD (l.map termD) (some ((at_ : Int) + 1)) none))), some (isV (.ref D)), none, some (dt K (.int (pl : Nat)))]) ?_ ?_
  · refine tys_for (α := Unit) (Ts := List.replicate (if 0 < n then 8 else 0) (fT K 2)) (Wi := fun i _ => W.own D nb (List.replicate (24 + i) (fT K 6))) (Γi := fun _ _ => [some bx, some (dt K (polD l0)), some (dt K (.int (n : Nat))), some (dt K (polD l)), some (dt K (.int (at_ : Nat))), some (dt K (intsD t.1)), some (dt K (.int t.2)), some (dt K (.tuple (cutD (l.map termD) none (some (at_ : Nat))))), some (dt K (.tuple (cutD (l.map termD) (some ((at_ : Int) + 1)) none))), some (isV (.ref D)), none, some (dt K (.int (pl : Nat)))]) () ?hi (fun _ _ => ⟨rfl, rfl⟩) (fun σ H g => g) (fun i T' _ hT => ?_) (fun _ σ H g => by rw [List.length_replicate] at g; exact g)
    case hi =>
      refine tyi_lst (ty_if (φ := (· = decide ((0 : Int) < (n : Nat)))) (tt_test (ty_op (ty_var rfl) ty_int opt_gt)) (fun z => ?_) fun z => ?_)
      · have z : 0 < n := by
          have := of_decide_eq_true z.symm
          omega
        rw [if_pos z]
        exact TyL.ty (tyl_lst (tya_cons (ft_int (i := -1) (ty_un ty_int unt_neg) (bd_small (by decide))) (tya_cons (ft_int ty_int (bd_small (by decide))) (tya_cons ft_bl (tya_cons ft_non (tya_cons (ft_str (by decide)) (tya_cons (tt_ft (tt_1 (ft_int ty_int (bd_small (by decide)))) (by decide)) (tya_cons (ft_int ty_int (bd_small (by decide))) (tya_cons (ft_int ty_int (bd_small (by decide))) tya_nil)))))))) (by rw [List.length_replicate]; decide))
      · have z : ¬ 0 < n := by
          have := of_decide_eq_false z.symm
          omega
        rw [if_neg z]
        exact TyL.ty (tyl_lst tya_nil (Nat.zero_le _))
    have hi := (List.getElem?_eq_some_iff.mp hT).1
    rw [List.length_replicate] at hi
    obtain rfl := rep_get hT
    refine ⟨_, tyg_name 10, ?_⟩
    show TyS _ [some bx, some (dt K (polD l0)), some (dt K (.int (n : Nat))), some (dt K (polD l)), some (dt K (.int (at_ : Nat))), some (dt K (intsD t.1)), some (dt K (.int t.2)), some (dt K (.tuple (cutD (l.map termD) none (some (at_ : Nat))))), some (dt K (.tuple (cutD (l.map termD) (some ((at_ : Int) + 1)) none))), some (isV (.ref D)), some (fT K 2), some (dt K (.int (pl : Nat)))] _ _ _ _ _
    refine TyS.imp (step _ _ D nb (24 + i) _ rfl (by first | omega | (split at hi <;> omega)) (around _ _ _ rfl rfl (tt_ft (n := 4) (tt_2 (n := 4) (ft_up (tt_ft (n := 2) (m := 5) (tt_cat (n := 2) (a := 3) (b := 2) (tt_cat (n := 2) (a := 2) (b := 1) (slD _ _ _ _ _ _ rfl tyo_none (tyo_some (ty_var rfl)) 1) (tt_1 (n := 2) (ty_var rfl)) (by decide)) (slD _ _ _ _ _ _ rfl (tyo_some (ty_op (ty_var rfl) ty_int opt_add)) tyo_none 1) (by decide)) (by decide))) (g8 _ _ rfl 3)) (by decide)))) fun σ H g => ⟨(), g.1, EnvL.less (by exact ⟨fun _ _ _ _ h => h, fun _ _ _ _ h => h, fun _ _ _ _ h => h, fun _ _ _ _ h => h, fun _ _ _ _ h => h, fun _ _ _ _ h => h, fun _ _ _ _ h => h, fun _ _ _ _ h => h, fun _ _ _ _ h => h, fun _ _ _ _ h => h, fun _ _ _ _ h => h, trivial⟩) g.2⟩
  refine tys_fin (i := 9) rfl nm ?_
  show TyS W [some bx, some (dt K (polD l0)), some (dt K (.int (n : Nat))), some (dt K (polD l)), some (dt K (.int (at_ : Nat))), some (dt K (intsD t.1)), some (dt K (.int t.2)), some (dt K (.tuple (cutD (l.map termD) none (some (at_ : Nat))))), some (dt K (.tuple (cutD (l.map termD) (some ((at_ : Int) + 1)) none))), some (lstT (List.replicate (24 + if 0 < n then 8 else 0) (fT K 6))), none, some (dt K (.int (pl : Nat)))] _ _ _ _ _
  have few8 : (if 0 < n then 8 else 0) ≤ 8 := by split <;> omega
  generalize (if 0 < n then 8 else 0) = c at few8
  refine tys_retW (Ty.sub (T := lstT (List.replicate (24 + c) (fT K 6) ++ List.replicate 12 (fT K 6))) (ty_op (ty_var rfl) (TyL.ty (tyl_lst (Ts := List.replicate 12 (fT K 6)) (tya_cons ?r1 (tya_cons ?r2 (tya_cons ?r3 (tya_cons ?r4 (tya_cons ?r5 (tya_cons ?r6 (tya_cons ?r7 (tya_cons ?r8 (tya_cons ?r9 (tya_cons ?r10 (tya_cons ?r11 (tya_cons ?r12 tya_nil)))))))))))) (by rw [List.length_replicate]; decide))) (opt_catL (by rw [List.length_replicate, List.length_replicate]; omega))) fun v H _ z => ?_)
  case r1 => exact around _ _ _ rfl rfl (tt_ft (m := 3) (tt_tup 3 (tya_cons (gD _ _ rfl 2) (tya_cons (g8 _ _ rfl 3) (tya_cons (ft_int ty_int (bd_small (by decide))) tya_nil))) (by decide)) (by decide))
  case r2 => exact around _ _ _ rfl rfl (tt_ft (m := 1) (tt_1 (gD _ _ rfl 2)) (by decide))
  case r3 => exact ft_non
  case r4 => exact ft_int ty_int (bd_small (by decide))
  case r5 => exact ft_str (by decide)
  case r6 => exact ft_dict
  case r7 => exact ft_nil
  case r8 => exact tt_ft (m := 0) tt_0 (by decide)
  case r9 => exact tt_ft (m := 1) (tt_1 (tt_ft (m := 0) tt_0 (by decide))) (by decide)
  case r10 => exact tt_ft (m := 1) (tt_1 (ft_int ty_int (bd_small (by decide)))) (by decide)
  case r11 => exact ft_bl
  case r12 => exact tt_ft (m := 2) (tt_2 (tt_ft (m := 2) (tt_2 (gD _ _ rfl 2) (g8 _ _ rfl 3)) (by decide)) (gD _ _ rfl 3)) (by decide)
  obtain ⟨a, xs, rfl, nm1, q1, q2⟩ := z
  rw [List.replicate_append_replicate] at q2
  obtain ⟨ds, h3, h4, h5⟩ := tys_fT q2
  exact ⟨ds, ⟨by omega, h4⟩, .lst q1 nm1 h5⟩
end
section
variable {P : Program} {w : World} {K : PySem.W.Frag} {mg : Str → Option Value} {base : Heap}
inductive K3 | cnt | itm | pol
def K3.tag : K3 → Str
  | .cnt => "count"
  | .itm => "items"
  | .pol => "polynomial"
/-- what is asked, and of what -/
structure AskX where
  w : Nat
  u : V
  d : PyData
  v : V
  e : PyData
  nm : Bool
/-- the error, and what it keeps -/
def askO (x : AskX) : Option (K3 × V × PyData) := if x.w = 0 then (if cntB x.e = true then none else some (.cnt, x.v, x.e)) else if itmB x.e = true then (if polyB (sizeD x.e) x.d = true then none else some (.pol, x.u, x.d)) else some (.itm, x.v, x.e)
def askD (x : AskX) : PyData := if x.w = 0 then .bool (polyB (cntN x.e) x.d) else .int (valD x.d x.e)
def askT (K : PySem.W.Frag) (o : Option (K3 × V × PyData)) (d : PyData) : Typ := match o with
  | none => dt K (.list [.str "told", d])
  | some (k, u, e) => lstT [dt K (.str k.tag), nmT K u e]
def k3A {P : Program} {K : PySem.W.Frag} {mg : Str → Option Value} (T : Tx P K mg) : K3 → Addr
  | .cnt => T.a_InvalidCount
  | .itm => T.a_InvalidItems
  | .pol => T.a_InvalidPolynomial
theorem ty_nmJ {W : Wd} {Γ : Gam} {K : PySem.W.Frag} {te : TE} {i : Nat} {u : V} {d : PyData} (h : Ty W Γ te (isV u)) (hi : Γ[i]? = some (some (nmT K u d))) : Ty W Γ te (nmT K u d) := fun σ H c g Q q => h σ H c g _ fun v H1 e hv => q v H1 e ⟨hv, by
  obtain ⟨w, _, h2, h3⟩ := g.get hi
  have z : w = v := Eq.trans h2 (Eq.symm hv)
  rw [← z]
  exact (dt K d).up (Ex.toM e W.sub) h3⟩
theorem ask_bad {P : Program} {K : PySem.W.Frag} {mg : Str → Option Value} (T : Tx P K mg) (x : AskX) : (if x.w = 0 then badC T x.v x.e else badI T x.u x.v x.d x.e) = (askO x).map fun p => ⟨k3A T p.1, flG, isV p.2.1⟩ := by
  unfold askO badC badI badP
  split <;> split <;> (try split) <;> rfl
def sp_law_asked (K : PySem.W.Frag) : Sp := spT (fun x : AskX => fine 6 x.d ∧ (x.w ≠ 0 → fine 6 x.e)) (fun x => [dt K (.int (x.w : Nat)), nmT K x.u x.d, nmT K x.v x.e, dt K (.bool x.nm)]) (fun x => askT K (askO x) (askD x))
theorem ok_law_asked (T : Tx P K mg) : FnOk P w K mg base (L2.CX P w) 8 T.a_law_asked T.f_law_asked ["which", "one", "two", "by_name"] (sp_law_asked K) := by
  have G_is_polynomial := ok_is_polynomial (w := w) (base := base) T
  have G_value_at := ok_value_at (w := w) (base := base) T
  have nd := sc_law_asked.nd
  refine fn_ty T.F_law_asked sc_law_asked (fun x _ => rfl) fun cdv Ar outer s H E hr => ⟨_, (pss_cons (k_try (K := K) rfl rfl rfl nd takes0 (fun _ pn xe tk _ => (pss_one (ps_if (pt_cmpR (k_eq (K := K) rfl hr.units) (pv 0) pe_int (nomark _)) (pss_one (pset 4 nd (pe_ifExp (pt_val (pv 3)) (pe_callKS G_is_polynomial (hr.mono (by decide)) rfl T.D_is_polynomial.g T.D_is_polynomial.k T.B_is_polynomial (fun σ => passAt tk σ) (pk_cons (pv 2) (pk_cons (pv 1) pk_nil))) (pe_callS G_is_polynomial (hr.mono (by decide)) rfl T.D_is_polynomial.g T.D_is_polynomial.k T.D_is_polynomial.b (fun σ => passAt tk σ) (pa_cons (pv 1) (pa_cons (pv 2) pa_nil)))))) (pss_one (pset 4 nd (pe_ifExp (pt_val (pv 3)) (pe_callKS G_value_at (hr.mono (by decide)) rfl T.D_value_at.g T.D_value_at.k T.B_value_at (fun σ => passAt tk σ) (pk_cons (pv 2) (pk_cons (pv 1) pk_nil))) (pe_callS G_value_at (hr.mono (by decide)) rfl T.D_value_at.g T.D_value_at.k T.D_value_at.b (fun σ => passAt tk σ) (pa_cons (pv 1) (pa_cons (pv 2) pa_nil))))))))) (HdsA.cons (i := 5) rfl rfl ⟨rfl, by decide, .inl T.c_InvalidCount.gC⟩ (fun a oe cls d pn hz hf => (pss_one (ps_ret (pe_lst (pa_cons pe_str (pa_cons (pe_xf T.x_InvalidCount T.c_InvalidCount.noN hz hf (pv 5)) pa_nil)))))) (HdsA.cons (i := 5) rfl rfl ⟨rfl, by decide, .inl T.c_InvalidItems.gC⟩ (fun a oe cls d pn hz hf => (pss_one (ps_ret (pe_lst (pa_cons pe_str (pa_cons (pe_xf T.x_InvalidItems T.c_InvalidItems.noN hz hf (pv 5)) pa_nil)))))) (HdsA.cons (i := 5) rfl rfl ⟨rfl, by decide, .inl T.c_InvalidPolynomial.gC⟩ (fun a oe cls d pn hz hf => (pss_one (ps_ret (pe_lst (pa_cons pe_str (pa_cons (pe_xf T.x_InvalidPolynomial T.c_InvalidPolynomial.noN hz hf (pv 5)) pa_nil)))))) HdsA.stop))))
    (pss_one (ps_ret (pe_lst (pa_cons pe_str (pa_cons (pv 4) pa_nil)))))), fun W x hC => ?_⟩
  obtain ⟨hf, hg⟩ : fine 6 x.d ∧ (x.w ≠ 0 → fine 6 x.e) := hC
  show TyS W [some (dt K (.int (x.w : Nat))), some (nmT K x.u x.d), some (nmT K x.v x.e), some (dt K (.bool x.nm)), none, none] _ _ _ _ _
  have name : Tt W [some (dt K (.int (x.w : Nat))), some (nmT K x.u x.d), some (nmT K x.v x.e), some (dt K (.bool x.nm)), none, none] (tB (tVar 3)) (· = x.nm) := tt_B (ty_var rfl)
  have pos : TyA W [some (dt K (.int (x.w : Nat))), some (nmT K x.u x.d), some (nmT K x.v x.e), some (dt K (.bool x.nm)), none, none] (tCons (tVar 1) (tCons (tVar 2) tNil)) [nmT K x.u x.d, nmT K x.v x.e] := tya_cons (ty_var rfl) (tya_cons (ty_var rfl) tya_nil)
  have key : TyA W [some (dt K (.int (x.w : Nat))), some (nmT K x.u x.d), some (nmT K x.v x.e), some (dt K (.bool x.nm)), none, none] (tCons (tVar 2) (tCons (tVar 1) tNil)) [nmT K x.v x.e, nmT K x.u x.d] := tya_cons (ty_var rfl) (tya_cons (ty_var rfl) tya_nil)
  refine tys_seq (N := fun σ H => askO x = none ∧ nE W [some (dt K (.int (x.w : Nat))), some (nmT K x.u x.d), some (nmT K x.v x.e), some (dt K (.bool x.nm)), some (dt K (askD x)), none] σ H)
    (tys_try (Er := fun c d σ H => nE W [some (dt K (.int (x.w : Nat))), some (nmT K x.u x.d), some (nmT K x.v x.e), some (dt K (.bool x.nm)), none, none] σ H ∧ ∃ dd, d = some dd ∧ ∃ p : K3 × V × PyData, askO x = some p ∧ c = .ref (k3A T p.1) ∧ HeldF W flG (isV p.2.1) dd H) (fun Wx hW => ?_) fun D dr c d σ H e => ?_) fun σ H ⟨ho, n⟩ => ⟨W, _, Wd.Like.refl W, n, TyS.never (tys_retW (by rw [ho]; exact ty_lstD (ds := [.str "told", askD x]) (tya_cons ty_str (tya_cons (ty_var rfl) tya_nil)) (by show 2 ≤ 1000000; decide)))⟩
  · have er : ∀ b, (if x.w = 0 then badC T x.v x.e else badI T x.u x.v x.d x.e) = some b → ErX W [some (dt K (.int (x.w : Nat))), some (nmT K x.u x.d), some (nmT K x.v x.e), some (dt K (.bool x.nm)), none, none] Wx b := fun b q dd σ H n hl => by
      rw [ask_bad] at q
      obtain ⟨p, hp, rfl⟩ := Option.map_eq_some_iff.mp q
      exact hW _ _ _ _ ⟨n, dd, rfl, p, hp, rfl, hl⟩
    refine tys_if (φ := (· = decide ((x.w : Int) = 0))) (tt_test (ty_op (ty_var rfl) ty_int opt_eqI)) (fun z => ?_) fun z => ?_
    · have h0 : x.w = 0 := by
        have := of_decide_eq_true z.symm
        omega
      rw [if_pos h0] at er
      refine TyS.imp (tys_set (i := 4) (T := gd (askO x = none) (dt K (askD x))) ((tyr_if name (fun _ => tyr_callKX (x.u, x.d, x.v, x.e) hf key tysv_rev2 er) fun _ => tyr_callX (x.u, x.d, x.v, x.e) hf pos er).ty fun H0 u H c _ z => ⟨?_, ?_⟩)) fun σ H n => ⟨(n.2.get (i := 4) rfl).elim fun _ z => z.2.1, n.1, EnvL.less (by exact ⟨fun _ _ _ _ h => h, fun _ _ _ _ h => h, fun _ _ _ _ h => h, fun _ _ _ _ h => h, fun _ _ _ _ h => h.2, trivial⟩) n.2⟩
      · unfold askO; rw [if_pos h0, if_pos (badC_none z.1)]
      · unfold askD; rw [if_pos h0]; exact z.2
    · have h0 : x.w ≠ 0 := by
        have := of_decide_eq_false z.symm
        omega
      rw [if_neg h0] at er
      refine TyS.imp (tys_set (i := 4) (T := gd (askO x = none) (dt K (askD x))) ((tyr_if name (fun _ => tyr_callKX (x.u, x.d, x.v, x.e) ⟨hf, hg h0⟩ key tysv_rev2 er) fun _ => tyr_callX (x.u, x.d, x.v, x.e) ⟨hf, hg h0⟩ pos er).ty fun H0 u H c _ z => ⟨?_, ?_⟩)) fun σ H n => ⟨(n.2.get (i := 4) rfl).elim fun _ z => z.2.1, n.1, EnvL.less (by exact ⟨fun _ _ _ _ h => h, fun _ _ _ _ h => h, fun _ _ _ _ h => h, fun _ _ _ _ h => h, fun _ _ _ _ h => h.2, trivial⟩) n.2⟩
      · have z1 := ask_bad T x
        rw [if_neg h0, z.1] at z1
        exact Option.map_eq_none_iff.mp z1.symm
      · unfold askD; rw [if_neg h0]; exact z.2
  · obtain ⟨n, dd, rfl, p, hp, rfl, hl⟩ := e
    obtain ⟨k, u, d⟩ := p
    have keep : ∀ (W' : Wd) (Γ : Gam) (te : TE), Γ[1]? = some (some (nmT K x.u x.d)) → Γ[2]? = some (some (nmT K x.v x.e)) → Ty W' Γ te (isV u) → Ty W' Γ te (nmT K u d) := fun W' Γ te h1 h2 h => by
      unfold askO at hp
      split at hp <;> split at hp <;> (try split at hp) <;> cases hp
      · exact ty_nmJ h h2
      · exact ty_nmJ h h1
      · exact ty_nmJ h h2
    have ret : ∀ (t : Str) (ad : Addr) (cls : Value) (d' : Option Addr) (c : Addr), t = k.tag → cls = .ref c → d' = some dd → TyS W ([some (dt K (.int (x.w : Nat))), some (nmT K x.u x.d), some (nmT K x.v x.e), some (dt K (.bool x.nm)), none, none].set 5 (some (erF dd ad flG (isV u)))) (tRet (tLst (tCons (tC (.str t)) (tCons (tXf ad cls d' c "given" (tVar 5)) tNil)))) noN (rW W (askT K (askO x) (askD x))) noN noN :=
      fun t ad cls d' c ht hc hd => tys_retW (by
        rw [hp]
        subst ht
        exact TyL.ty (tyl_lst (Ts := [dt K (.str k.tag), nmT K u d]) (tya_cons ty_str (tya_cons (keep _ _ _ rfl rfl (ty_field flG_given hc hd (ty_var rfl))) tya_nil)) (by show 2 ≤ 1000000; decide)))
    cases k with
    | cnt => exact hdl_hitX T.e_InvalidCount_InvalidCount n hl dr fun a => ret "count" a _ _ _ rfl rfl rfl
    | itm => exact hdl_miss T.e_InvalidItems_InvalidCount (hdl_hitX T.e_InvalidItems_InvalidItems n hl dr fun a => ret "items" a _ _ _ rfl rfl rfl)
    | pol => exact hdl_miss T.e_InvalidPolynomial_InvalidCount (hdl_miss T.e_InvalidPolynomial_InvalidItems (hdl_hitX T.e_InvalidPolynomial_InvalidPolynomial n hl dr fun a => ret "polynomial" a _ _ _ rfl rfl rfl))
end
section
variable {P : Program} {w : World} {K : PySem.W.Frag} {mg : Str → Option Value} {base : Heap}
/-! ### while what is new is changed -/
section
variable {W : Wd} {Γ Γ' : Gam} {K : PySem.W.Frag} {T : Typ} {ts tw : TS} {tt tu : TT} {tl : TA} {i : Nat} {N : Sx → Hp → Prop} {R : V → Hp → Prop} {u : V} {d : PyData} {Bk Ct : Sx → Hp → Prop}
theorem kn_out {v : V} {A : Typ} {H : Hp} (c : Cxt (Wd.kn W v A) H) : Cxt W H := ⟨c.box, c.al, c.ex, c.own.1⟩
theorem tys_sinceC {N' : Hp → Sx → Hp → Prop} (h : ∀ Hs, Cxt W Hs → TyV (W.since Hs) (Γ.map fun T => T.map (frT Hs)) ts (fun σ H => Cxt (W.since Hs) H ∧ N' Hs σ H) R) (k : ∀ Hs σ H, Cxt W Hs → Cxt (W.since Hs) H → N' Hs σ H → N σ H) : TyS W Γ ts N R Bk Ct := fun σ H c g D dn dr _ _ =>
  h H c σ H ⟨c.box, c.al, c.ex, c.own, Ex.refl _ _⟩ (env_fr g) D (fun σ' H' ⟨c', n⟩ => dn σ' H' (Ex.toM c'.own.2 W.sub) (k H σ' H' c c' n)) dr
theorem TyV.openX {α : Type} {A : α → Typ} (hn : Γ[i]? = some (some (exT A))) (h : ∀ x, TyV W (Γ.set i (some (A x))) ts N R) : TyV W Γ ts N R := fun σ H c g => by
  obtain ⟨v, h1, x, h2⟩ := g.get hn
  have e : σ.set i (some v) = σ := by
    apply List.ext_getElem?
    intro j
    by_cases hj : i = j
    · subst hj
      rw [List.getElem?_set_self (List.getElem?_eq_some_iff.mp h1).1, h1]
    · rw [List.getElem?_set_ne hj]
  have z := EnvL.set (T := A x) (i := i) (v := v) h2 g
  rw [e] at z
  exact h x σ H c z
theorem TyV.openG {φ : Prop} {A : Typ} (hn : Γ[i]? = some (some (gd φ A))) (h : φ → TyV W (Γ.set i (some A)) ts N R) : TyV W Γ ts N R := fun σ H c g => by
  obtain ⟨v, h1, f, h2⟩ := g.get hn
  have e : σ.set i (some v) = σ := by
    apply List.ext_getElem?
    intro j
    by_cases hj : i = j
    · subst hj
      rw [List.getElem?_set_self (List.getElem?_eq_some_iff.mp h1).1, h1]
    · rw [List.getElem?_set_ne hj]
  have z := EnvL.set (T := A) (i := i) (v := v) h2 g
  rw [e] at z
  exact h f σ H c z
theorem TyV.nameV (hn : Γ[i]? = some (some T)) (h : ∀ u, TyV W (Γ.set i (some (anT (isV u) T))) ts N R) : TyV W Γ ts N R := fun σ H c g => by
  obtain ⟨v, h1, h2⟩ := g.get hn
  have e : σ.set i (some v) = σ := by
    apply List.ext_getElem?
    intro j
    by_cases hj : i = j
    · subst hj
      rw [List.getElem?_set_self (List.getElem?_eq_some_iff.mp h1).1, h1]
    · rw [List.getElem?_set_ne hj]
  have z := EnvL.set (T := anT (isV v) T) (i := i) (v := v) ⟨rfl, h2⟩ g
  rw [e] at z
  exact h v σ H c z
theorem tyv_set {te : TE} (h : Ty W Γ te T) : TyV W Γ (tAsg te (gName i)) (nE W (Γ.set i (some T))) R := TyS.tyv (tys_set h)
theorem TyV.slot {T' : Typ} (hn : Γ[i]? = some (some T)) (k : ∀ v H, T.p W.M W.B v H → T'.p W.M W.B v H) (h : TyV W (Γ.set i (some T')) ts N R) : TyV W Γ ts N R := fun σ H c g => by
  obtain ⟨v, h1, h2⟩ := g.get hn
  have e : σ.set i (some v) = σ := by
    apply List.ext_getElem?
    intro j
    by_cases hj : i = j
    · subst hj
      rw [List.getElem?_set_self (List.getElem?_eq_some_iff.mp h1).1, h1]
    · rw [List.getElem?_set_ne hj]
  have z := EnvL.set (T := T') (i := i) (v := v) (k v H h2) g
  rw [e] at z
  exact h σ H c z
/-- as it stands again -/
def Un (M B : Addr → Prop) (H : Hp) : Gam → Gam → Prop
  | [], [] => True
  | none :: Γ', _ :: Γ => Un M B H Γ' Γ
  | some T' :: Γ', some T :: Γ => (∀ v, T.p M B v H → T'.p M B v H) ∧ Un M B H Γ' Γ
  | _, _ => False
theorem unfr {M B : Addr → Prop} {H : Hp} : ∀ {Γ' Γ : Gam} {σ : Sx}, Un M B H Γ' Γ → EnvL M B Γ σ H → EnvL M B Γ' σ H
  | [], [], [], _, h => h
  | none :: Γ', none :: Γ, _ :: σ, s, h => unfr (Γ' := Γ') (Γ := Γ) s h
  | none :: Γ', some _ :: Γ, some _ :: σ, s, h => unfr (Γ' := Γ') (Γ := Γ) s h.2
  | some T' :: Γ', some T :: Γ, some _ :: σ, s, h => ⟨s.1 _ h.1, unfr s.2 h.2⟩
  | [], [], _ :: _, _, h => h.elim
  | none :: _, none :: _, [], _, h => h.elim
  | none :: _, some _ :: _, [], _, h => h.elim
  | none :: _, some _ :: _, none :: _, _, h => h.elim
  | some _ :: _, some _ :: _, [], _, h => h.elim
  | some _ :: _, some _ :: _, none :: _, _, h => h.elim
/-- a test that lets something be changed, and fails -/
def TtV (W : Wd) (Γ : Gam) (u : V) (d : PyData) (tt : TT) : Prop := ∀ σ H, Cxt W H → EnvW W Γ σ H → ∀ Q : Bool → Hp → Prop, (∀ H1 H2, Ex W.B H H1 → VeryH W.B u d H1 H2 → (∀ a, W.B a → BoxAt H2 a) → (∀ a, H1 a ≠ none → H2 a ≠ none) → Q false H2) → tt σ H Q
theorem ttv_and (h1 : Tt W Γ tt (· = true)) (h2 : TtV W Γ u d tu) : TtV W Γ u d (tAnd tt tu) := fun σ H c g Q q => h1 σ H c g _ fun b H1 e1 hb => by
  subst hb
  rw [if_pos rfl]
  exact h2 σ H1 (c.up e1) (g.up e1.toW) Q fun H2 H3 e2 => q H2 H3 (e1.trans e2)
theorem ttv_or (h1 : Tt W Γ tt (· = false)) (h2 : TtV W Γ u d tu) : TtV W Γ u d (tOr tt tu) := fun σ H c g Q q => h1 σ H c g _ fun b H1 e1 hb => by
  subst hb
  rw [if_neg Bool.false_ne_true]
  exact h2 σ H1 (c.up e1) (g.up e1.toW) Q fun H2 H3 e2 => q H2 H3 (e1.trans e2)
theorem ttv_very {E : XK} (hf : fine 6 d) (h : TyA W Γ tl [nmT K u d, nmT K u d]) : TtV W Γ u d (tNot (tB (tCall (sp_law_very K) [] E tl))) := fun σ H c g Q q => h σ H c g _ fun vs H1 e1 hv => by
  match vs, hv with
  | [a, b], hv =>
    obtain ⟨⟨ha, ha2⟩, ⟨hb, _⟩, _⟩ := hv
    have ha : a = u := ha
    have hb : b = u := hb
    have c1 := c.up e1
    exact ⟨W.M, W.B, u, d, W.sub, c1.box, c1.al, hf, by rw [ha, hb]; rfl, ha ▸ ha2, fun H' v b n => ⟨true, rfl, q H1 H' e1 v b n⟩⟩
/-- what stands while something new is changed -/
def Stays (W : Wd) (Hs : Hp) : Gam → Gam → Prop
  | [], [] => True
  | none :: Γ', _ :: Γ => Stays W Hs Γ' Γ
  | some T' :: Γ', some T :: Γ => (∀ v H H2, (∀ a, Hs a ≠ none → H2 a ≠ none) → T.p W.M W.B v H → T'.p W.M W.B v H2) ∧ Stays W Hs Γ' Γ
  | _, _ => False
theorem stays {Hs H H2 : Hp} (n : ∀ a, Hs a ≠ none → H2 a ≠ none) : ∀ {Γ' Γ : Gam} {σ : Sx}, Stays W Hs Γ' Γ → EnvL W.M W.B Γ σ H → EnvL W.M W.B Γ' σ H2
  | [], [], [], _, h => h
  | none :: Γ', none :: Γ, _ :: σ, s, h => stays (Γ' := Γ') (Γ := Γ) n s h
  | none :: Γ', some _ :: Γ, some _ :: σ, s, h => stays (Γ' := Γ') (Γ := Γ) n s h.2
  | some T' :: Γ', some T :: Γ, some _ :: σ, s, h => ⟨s.1 _ _ _ n h.1, stays n s.2 h.2⟩
  | [], [], _ :: _, _, h => h.elim
  | none :: _, none :: _, [], _, h => h.elim
  | none :: _, some _ :: _, [], _, h => h.elim
  | none :: _, some _ :: _, none :: _, _, h => h.elim
  | some _ :: _, some _ :: _, [], _, h => h.elim
  | some _ :: _, some _ :: _, none :: _, _, h => h.elim
/-- if .. very(..): return False -/
theorem tyv_very {Hs : Hp} (c0 : Cxt W Hs) (fr : isLD d → ∀ a, u = .ref a → Hs a = none) (ht : TtV (W.since Hs) Γ u d tt) (s : Stays (W.since Hs) Hs Γ' Γ) (k : TyV (W.since Hs) Γ' tw N R) : TyV (W.since Hs) Γ (tSeq (tIfS tt ts tNext) tw) N R := fun σ H c g D dn dr => ht σ H c g _ fun H1 H2 e1 hv hb hn => by
  rw [if_neg Bool.false_ne_true]
  have es : Ex W.B Hs H1 := c.own.2.trans e1
  have e2 : Ex W.B Hs H2 := fun a o h => by
    have nu : isLD d → u ≠ .ref a := fun l z => by
      have := fr l a z
      rw [this] at h; cases h
    rcases es a o h with w | ⟨w1, w2, w3⟩
    · rcases hv a o w nu with z | ⟨z1, z2, z3⟩
      · exact .inl z
      · obtain ⟨xs, z4, z5⟩ := z2
        rw [w] at z4; cases z4
        exact .inr ⟨z1, ⟨xs, h, z5⟩, z3⟩
    · exact .inr ⟨w1, w2, hb a w1⟩
  have nn : ∀ a, Hs a ≠ none → H2 a ≠ none := fun a h => exm_some (Ex.toM e2 W.sub) h
  refine k σ H2 ⟨hb, fun a h => nn a (c0.al a h), c0.ex.trans e2, W.kept e2 c0.own, e2⟩ (stays (W := W.since Hs) nn s g) D dn dr
/-- a new one, by the heap -/
def nwT (K : PySem.W.Frag) (Hs : Hp) (d : PyData) : Typ := anT (dt K d) ⟨fun _ _ v _ => isLD d → ∀ a, v = .ref a → Hs a = none, fun _ h => h, fun _ h => h, fun h => h⟩
theorem ty_copy {Hs : Hp} {E : XK} {tc : TE} (hf : fine 8 d) (h : Ty (W.since Hs) Γ tc (dt K d)) : Ty (W.since Hs) Γ (tCall (sp_law_copy K) [] E (tCons tc tNil)) (nwT K Hs d) := (tyr_callR d hf (tya_cons h tya_nil)).ty fun H0 v H c e z => ⟨z.1, fun l a q => by
  obtain ⟨p, h1, h2⟩ := z.2 l
  rw [h1] at q
  cases q
  exact Ex.free c.own.2 h2⟩
/-- of the new one that has a name -/
theorem TyV.copied {Hs : Hp} (hn : Γ[i]? = some (some (nwT K Hs d))) (h : ∀ u, (isLD d → ∀ a, u = .ref a → Hs a = none) → TyV W (Γ.set i (some (nmT K u d))) ts N R) : TyV W Γ ts N R := fun σ H c g => by
  obtain ⟨v, h1, h2⟩ := g.get hn
  have e : σ.set i (some v) = σ := by
    apply List.ext_getElem?
    intro j
    by_cases hj : i = j
    · subst hj
      rw [List.getElem?_set_self (List.getElem?_eq_some_iff.mp h1).1, h1]
    · rw [List.getElem?_set_ne hj]
  have z := EnvL.set (T := nmT K v d) (i := i) (v := v) ⟨rfl, h2.1⟩ g
  rw [e] at z
  exact h v h2.2 σ H c z
theorem ty_nmI {te : TE} {n : Int} (h : Ty W Γ te (dt K (.int n))) : Ty W Γ te (nmT K (.int n) (.int n)) := h.sub fun v H _ z => ⟨by cases z; rfl, z⟩
end
def boolsT (K : PySem.W.Frag) : Typ := exT fun b : Bool => dt K (.bool b)
theorem boolsT_stay {K : PySem.W.Frag} {M B : Addr → Prop} {v : V} {H H2 : Hp} (h : (boolsT K).p M B v H) : (boolsT K).p M B v H2 := by
  obtain ⟨b, z⟩ := h
  cases z
  exact ⟨b, .bl b⟩
theorem ask0 {u v : V} {d : PyData} {n : Nat} {b : Bool} (hn : n ≤ 2) : askO ⟨0, u, d, v, .int (n : Nat), b⟩ = none ∧ askD ⟨0, u, d, v, .int (n : Nat), b⟩ = .bool (polyB n d) := by
  have h : cntB (.int (n : Nat)) = true := by
    show (decide ((0 : Int) ≤ (n : Nat)) && decide ((n : Int) ≤ 2)) = true
    rw [decide_eq_true (by omega), decide_eq_true (by omega)]; rfl
  refine ⟨?_, ?_⟩
  · show (if cntB (.int (n : Nat)) = true then none else _) = none
    rw [if_pos h]
  · show PyData.bool (polyB (n : Int).toNat d) = _
    rw [Int.toNat_natCast]
theorem itm_ints {ns : List Int} (h : ns.length ≤ 2) : itmB (intsD ns) = true := by
  show (decide ((ns.map PyData.int).length ≤ 2) && (ns.map PyData.int).all isWholeD) = true
  rw [List.length_map, decide_eq_true h, Bool.true_and, List.all_map, List.all_eq_true]
  exact fun _ _ => rfl
theorem size_ints (ns : List Int) : sizeD (intsD ns) = ns.length := List.length_map ..
theorem smT {n : Nat} {d : PyData} (h : smOk n d) : smOk (n + 1) (.list [.str "told", d]) := ⟨by show 2 ≤ 1000; decide, fun e he => by
  rcases List.mem_cons.mp he with rfl | he
  · cases n with
    | zero => exact h.elim
    | succ n => show ("told" : Str).length ≤ 1000; decide
  · rw [List.mem_singleton.mp he]; exact h⟩
section
variable {W : Wd} {Γ : Gam} {K : PySem.W.Frag} {E : XK} {u v : V} {d e : PyData} {tc td te tf : TE} {b : Bool} {n : Nat} {ns : List Int} {l : List Term}
theorem ty_ask {k : Nat} (h : fine 6 d ∧ (k ≠ 0 → fine 6 e)) (h0 : Ty W Γ tc (dt K (.int (k : Nat)))) (h1 : Ty W Γ td (nmT K u d)) (h2 : Ty W Γ te (nmT K v e)) (h3 : Ty W Γ tf (dt K (.bool b))) :
    Ty W Γ (tCall (sp_law_asked K) [] E (tCons tc (tCons td (tCons te (tCons tf tNil))))) (askT K (askO ⟨k, u, d, v, e, b⟩) (askD ⟨k, u, d, v, e, b⟩)) := ty_call (AskX.mk k u d v e b) h (tya_cons h0 (tya_cons h1 (tya_cons h2 (tya_cons h3 tya_nil))))
/-- is it one of n items -/
theorem ty_ask0 (hf : fine 6 d) (hn : n ≤ 2) (h1 : Ty W Γ td (nmT K u d)) (h2 : Ty W Γ te (dt K (.int (n : Nat)))) (h3 : Ty W Γ tf (dt K (.bool b))) :
    Ty W Γ (tCall (sp_law_asked K) [] E (tCons (tC (.int 0)) (tCons td (tCons te (tCons tf tNil))))) (dt K (.list [.str "told", .bool (polyB n d)])) := by
  have h := ty_ask (k := 0) (E := E) ⟨hf, fun z => absurd rfl z⟩ (ty_int (K := K)) h1 (ty_nmI h2) h3
  obtain ⟨a1, a2⟩ := ask0 (u := u) (v := .int (n : Nat)) (d := d) (b := b) hn
  rw [a1, a2] at h
  exact h
/-- its value -/
theorem ty_ask1 (hf : fine 6 (polD l)) (hp : PolOk ns.length l) (hi : fine 6 (intsD ns)) (hn : ns.length ≤ 2) (h1 : Ty W Γ td (nmT K u (polD l))) (h2 : Ty W Γ te (nmT K v (intsD ns))) (h3 : Ty W Γ tf (dt K (.bool b))) :
    Ty W Γ (tCall (sp_law_asked K) [] E (tCons (tC (.int 1)) (tCons td (tCons te (tCons tf tNil))))) (dt K (.list [.str "told", .int (valI l ns)])) := by
  have h := ty_ask (k := 1) (E := E) ⟨hf, fun z => hi⟩ (ty_int (K := K)) h1 h2 h3
  have a1 : askO ⟨1, u, polD l, v, intsD ns, b⟩ = none := by
    show (if itmB (intsD ns) = true then (if polyB (sizeD (intsD ns)) (polD l) = true then none else _) else _) = none
    rw [if_pos (itm_ints hn), size_ints, if_pos (poly_ok hp)]
  have a2 : askD ⟨1, u, polD l, v, intsD ns, b⟩ = .int (valI l ns) := by
    show PyData.int (valI (terms (polD l)) (degsOf (intsD ns))) = _
    rw [terms_pol, degs_ints]
  rw [a1, a2] at h
  exact h
/-- .. of none -/
theorem ty_ask2 (hf : fine 6 d) (hp : polyB ns.length d = false) (hi : fine 6 (intsD ns)) (hn : ns.length ≤ 2) (h1 : Ty W Γ td (nmT K u d)) (h2 : Ty W Γ te (nmT K v (intsD ns))) (h3 : Ty W Γ tf (dt K (.bool b))) :
    Ty W Γ (tCall (sp_law_asked K) [] E (tCons (tC (.int 1)) (tCons td (tCons te (tCons tf tNil))))) (lstT [dt K (.str "polynomial"), nmT K u d]) := by
  have h := ty_ask (k := 1) (E := E) ⟨hf, fun z => hi⟩ (ty_int (K := K)) h1 h2 h3
  have a1 : askO ⟨1, u, d, v, intsD ns, b⟩ = some (.pol, u, d) := by
    show (if itmB (intsD ns) = true then (if polyB (sizeD (intsD ns)) d = true then none else some (K3.pol, u, d)) else _) = _
    rw [if_pos (itm_ints hn), size_ints, if_neg (by rw [hp]; exact Bool.false_ne_true)]
  rw [a1] at h
  exact h
/-- same(.., ..), both the same -/
theorem tt_same {ta tb : TE} (h : smOk 8 d) (h1 : Ty W Γ ta (dt K d)) (h2 : Ty W Γ tb (dt K d)) : Tt W Γ (tNot (tB (tCall (sp_law_same K) [] E (tCons ta (tCons tb tNil))))) (· = false) := Tt.is (tt_notB (tt_B (ty_call d h (tya_cons h1 (tya_cons h2 tya_nil))))) rfl
theorem ty_told {ta : TE} (h : Ty W Γ ta (dt K d)) : Ty W Γ (tLst (tCons (tC (.str "told")) (tCons ta tNil))) (dt K (.list [.str "told", d])) := ty_lstD (ds := [.str "told", d]) (tya_cons ty_str (tya_cons h tya_nil)) (by show 2 ≤ 1000000; decide)
theorem ty_turn {ta : TE} (h : Ty W Γ ta (dt K (.bool b))) : Ty W Γ (tNotV ta) (boolsT K) := (ty_notV h).sub fun v H _ z => ⟨!b, z⟩
end
def sp_law_poly_right (K : PySem.W.Frag) : Sp := spT (fun x : List Term × Nat × Bool => PolD x.2.1 x.1 ∧ x.2.1 ≤ 2) (fun x => [bx, dt K (.int (x.2.1 : Nat)), dt K (polD x.1), dt K (.bool x.2.2)]) (fun _ => dt K (.bool true))
theorem ok_law_poly_right (T : Tx P K mg) : FnOk P w K mg base (L2.CX P w) 10 T.a_law_poly_right T.f_law_poly_right ["box", "items", "polynomial", "by_name"] (sp_law_poly_right K) := by
  have G_law_bent := ok_law_bent (w := w) (base := base) T
  have G_law_items := ok_law_items (w := w) (base := base) T
  have G_law_same := ok_law_same (w := w) (base := base) T
  have G_law_value := ok_law_value (w := w) (base := base) T
  have G_law_copy := ok_law_copy (w := w) (base := base) T
  have G_law_is_poly := ok_law_is_poly (w := w) (base := base) T
  have G_law_asked := ok_law_asked (w := w) (base := base) T
  have G_law_very := ok_law_very (w := w) (base := base) T
  have nd := sc_law_poly_right.nd
  refine fn_ty T.F_law_poly_right sc_law_poly_right (fun x _ => rfl) fun cdv Ar outer s H E hr => ⟨_, (pss_cons (ps_for PassesOwn.never rfl (pi_range1 rfl T.m_range (pa_cons pe_int pa_nil)) (pgn 4 nd) (pss_cons (ps_if (pt_not (pt_val (pcall G_law_same (hr.mono (by decide)) T.D_law_same (pa_cons (pcall G_law_asked (hr.mono (by decide)) T.D_law_asked (pa_cons pe_int (pa_cons (pv 2) (pa_cons (pv 4) (pa_cons (pv 3) pa_nil))))) (pa_cons (pe_lst (pa_cons pe_str (pa_cons (pcall G_law_is_poly (hr.mono (by decide)) T.D_law_is_poly (pa_cons (pv 2) (pa_cons (pv 4) pa_nil))) pa_nil))) pa_nil))))) (pss_one (ps_ret pe_bl)) pss_nil)
    (pss_one (pset 3 nd (pe_not (pv 3))))))
    (pss_cons (ps_for PassesOwn.never rfl (pi_range1 rfl T.m_range (pa_cons pe_int pa_nil)) (pgn 5 nd) (pss_cons (pset 6 nd (pcall G_law_items (hr.mono (by decide)) T.D_law_items (pa_cons (pv 0) (pa_cons (pv 1) pa_nil))))
    (pss_cons (pset 7 nd (pe_lst (pa_cons pe_str (pa_cons (pcall G_law_value (hr.mono (by decide)) T.D_law_value (pa_cons (pv 2) (pa_cons (pv 6) pa_nil))) pa_nil))))
    (pss_one (ps_if (pt_not (pt_val (pcall G_law_same (hr.mono (by decide)) T.D_law_same (pa_cons (pe_lst (pa_cons (pcall G_law_asked (hr.mono (by decide)) T.D_law_asked (pa_cons pe_int (pa_cons (pv 2) (pa_cons (pv 6) (pa_cons (pv 3) pa_nil))))) (pa_cons (pcall G_law_asked (hr.mono (by decide)) T.D_law_asked (pa_cons pe_int (pa_cons (pv 2) (pa_cons (pv 6) (pa_cons (pe_not (pv 3)) pa_nil))))) pa_nil))) (pa_cons (pe_lst (pa_cons (pv 7) (pa_cons (pv 7) pa_nil))) pa_nil))))) (pss_one (ps_ret pe_bl)) pss_nil)))))
    (pss_cons (ps_for PassesOwn.never rfl (k_ilist (K := K) rfl (pcall G_law_bent (hr.mono (by decide)) T.D_law_bent (pa_cons (pv 0) (pa_cons (pv 2) (pa_cons (pv 1) pa_nil))))) (pgn 8 nd) (pss_cons (ps_par (i := 9) (j := 10) rfl nd rfl rfl (by decide) rfl rfl (pa_cons (pcall G_law_copy (hr.mono (by decide)) T.D_law_copy (pa_cons (pv 8) pa_nil)) (pa_cons (pcall G_law_is_poly (hr.mono (by decide)) T.D_law_is_poly (pa_cons (pv 8) (pa_cons (pv 1) pa_nil))) pa_nil)) (by rfl))
    (pss_cons (ps_if (PW.pt (pw_or (pt_not (pt_val (pcall G_law_same (hr.mono (by decide)) T.D_law_same (pa_cons (pcall G_law_asked (hr.mono (by decide)) T.D_law_asked (pa_cons pe_int (pa_cons (pv 9) (pa_cons (pv 1) (pa_cons (pv 3) pa_nil))))) (pa_cons (pe_lst (pa_cons pe_str (pa_cons (pv 10) pa_nil))) pa_nil))))) (pw_or1 (pt_not (pt_val (pcall G_law_same (hr.mono (by decide)) T.D_law_same (pa_cons (pv 9) (pa_cons (pv 8) pa_nil)))))))) (pss_one (ps_ret pe_bl)) pss_nil)
    (pss_cons (pset 6 nd (pcall G_law_items (hr.mono (by decide)) T.D_law_items (pa_cons (pv 0) (pa_cons (pv 1) pa_nil))))
    (pss_cons (ps_par (i := 7) (j := 11) rfl nd rfl rfl (by decide) rfl rfl (pa_cons (pe_ifExp (pt_val (pv 10)) (pcall G_law_value (hr.mono (by decide)) T.D_law_value (pa_cons (pv 8) (pa_cons (pv 6) pa_nil))) pe_non) (pa_cons (pcall G_law_asked (hr.mono (by decide)) T.D_law_asked (pa_cons pe_int (pa_cons (pv 9) (pa_cons (pv 6) (pa_cons (pe_not (pv 3)) pa_nil))))) pa_nil)) (by rfl))
    (pss_cons (ps_if (PW.pt (pw_and (pt_val (pv 10)) (pw_and1 (pt_not (pt_val (pcall G_law_same (hr.mono (by decide)) T.D_law_same (pa_cons (pv 11) (pa_cons (pe_lst (pa_cons pe_str (pa_cons (pv 7) pa_nil))) pa_nil)))))))) (pss_one (ps_ret pe_bl)) pss_nil)
    (pss_cons (ps_if (PW.pt (pw_and (pt_not (pt_val (pv 10))) (pw_and1 (PW.pt (pw_or (pt_cmpR (k_ne (K := K) rfl hr.units) (pe_ix (k_ix (K := K) rfl) (pv 11) pe_int (fun _ _ => rfl)) pe_str (nomark _)) (pw_or1 (pt_not (pt_val (pcall G_law_very (hr.mono (by decide)) T.D_law_very (pa_cons (pe_ix (k_ix (K := K) rfl) (pv 11) pe_int (fun _ _ => rfl)) (pa_cons (pv 9) pa_nil))))))))))) (pss_one (ps_ret pe_bl)) pss_nil)
    (pss_one (pset 3 nd (pe_not (pv 3)))))))))))
    (pss_one (ps_ret pe_bl))))), fun W x hC => ?_⟩
  obtain ⟨l, n, b0⟩ := x
  obtain ⟨hl, hn⟩ : PolD n l ∧ n ≤ 2 := hC
  have fl : fine 6 (polD l) := fine_up (fine_pol (n := 1) hn hl)
  show TyS W [some bx, some (dt K (.int (n : Nat))), some (dt K (polD l)), some (dt K (.bool b0)), none, none, none, none, none, none, none, none] _ _ _ _ _
  refine TyS.nameV (i := 2) rfl fun up => ?_
  show TyS W [some bx, some (dt K (.int (n : Nat))), some (nmT K up (polD l)), some (dt K (.bool b0)), none, none, none, none, none, none, none, none] _ _ _ _ _
  -- judged
  refine tys_seqE (W' := W) (Γ' := [some bx, some (dt K (.int (n : Nat))), some (nmT K up (polD l)), some (boolsT K), none, none, none, none, none, none, none, none]) ?_ ?_
  · refine tys_for (α := Unit) (Wi := fun _ _ => W) (Γi := fun _ _ => [some bx, some (dt K (.int (n : Nat))), some (nmT K up (polD l)), some (boolsT K), none, none, none, none, none, none, none, none]) () (tyi_rng1 (tya_cons (ty_int (K := K) (n := 3)) tya_nil) (by decide) (by decide)) (fun _ _ => Wd.Like.refl W) (fun σ H g => ⟨g.1, EnvL.less (by exact ⟨fun _ _ _ _ h => h, fun _ _ _ _ h => h, fun _ _ _ _ h => h, fun _ _ _ _ h => ⟨b0, h⟩, trivial⟩) g.2⟩) (fun i T' _ hT => ?_) (fun _ σ H g => g)
    obtain ⟨hi, rfl⟩ := range_map_get hT
    have hi : i < 3 := hi
    refine ⟨_, tyg_name 4, ?_⟩
    show TyS W [some bx, some (dt K (.int (n : Nat))), some (nmT K up (polD l)), some (boolsT K), some (dt K (.int (i : Nat))), none, none, none, none, none, none, none] _ _ _ _ _
    refine TyS.openX (n := 3) rfl fun b => ?_
    show TyS W [some bx, some (dt K (.int (n : Nat))), some (nmT K up (polD l)), some (dt K (.bool b)), some (dt K (.int (i : Nat))), none, none, none, none, none, none, none] _ _ _ _ _
    refine tys_guard (φ := (· = false)) (tt_same (d := .list [.str "told", .bool (polyB i (polD l))]) (smT (n := 7) trivial) (ty_ask0 fl (by omega) (ty_var rfl) (ty_var rfl) (ty_var rfl)) (ty_told (ty_call (polD l, i) ⟨fl, by omega⟩ (tya_cons (ty_nmD rfl) (tya_cons (ty_var rfl) tya_nil))))) (fun z => Bool.noConfusion z) fun _ => ?_
    exact (tys_set (ty_turn (ty_var rfl))).imp fun σ H g => ⟨(), g.1, EnvL.less (by exact ⟨fun _ _ _ _ h => h, fun _ _ _ _ h => h, fun _ _ _ _ h => h, fun _ _ _ _ h => h, trivial⟩) g.2⟩
  -- its values
  refine tys_seqE (W' := W) (Γ' := [some bx, some (dt K (.int (n : Nat))), some (nmT K up (polD l)), some (boolsT K), none, none, none, none, none, none, none, none]) ?_ ?_
  · refine tys_for (α := Unit) (Wi := fun _ _ => W) (Γi := fun _ _ => [some bx, some (dt K (.int (n : Nat))), some (nmT K up (polD l)), some (boolsT K), none, none, none, none, none, none, none, none]) () (tyi_rng1 (tya_cons (ty_int (K := K) (n := 4)) tya_nil) (by decide) (by decide)) (fun _ _ => Wd.Like.refl W) (fun σ H g => g) (fun i T' _ hT => ?_) (fun _ σ H g => g)
    obtain ⟨hi, rfl⟩ := range_map_get hT
    refine ⟨_, tyg_name 5, ?_⟩
    show TyS W [some bx, some (dt K (.int (n : Nat))), some (nmT K up (polD l)), some (boolsT K), none, some (dt K (.int (i : Nat))), none, none, none, none, none, none] _ _ _ _ _
    refine TyS.openX (n := 3) rfl fun b => ?_
    show TyS W [some bx, some (dt K (.int (n : Nat))), some (nmT K up (polD l)), some (dt K (.bool b)), none, some (dt K (.int (i : Nat))), none, none, none, none, none, none] _ _ _ _ _
    refine tys_seqE (tys_set (ty_call n hn (tya_cons (ty_var rfl) (tya_cons (ty_var rfl) tya_nil)))) ?_
    refine TyS.openX (n := 6) rfl fun ns => TyS.openG (n := 6) rfl fun hns => TyS.nameV (i := 6) rfl fun un => ?_
    obtain ⟨hns, hnb⟩ := hns
    subst hns
    show TyS W [some bx, some (dt K (.int (ns.length : Nat))), some (nmT K up (polD l)), some (dt K (.bool b)), none, some (dt K (.int (i : Nat))), some (nmT K un (intsD ns)), none, none, none, none, none] _ _ _ _ _
    have fi : fine 6 (intsD ns) := (fine_ints' (n := 4) (by omega) hnb).1
    have vc : ValC l ns := pol_valC fl hl.ok fi hn
    refine tys_seqE (tys_set (ty_told (ty_call (l, ns) vc (tya_cons (ty_nmD rfl) (tya_cons (ty_nmD rfl) tya_nil))))) ?_
    show TyS W [some bx, some (dt K (.int (ns.length : Nat))), some (nmT K up (polD l)), some (dt K (.bool b)), none, some (dt K (.int (i : Nat))), some (nmT K un (intsD ns)), some (dt K (.list [.str "told", .int (valI l ns)])), none, none, none, none] _ _ _ _ _
    refine TyS.imp (tys_if (φ := (· = false)) (tt_same (d := .list [.list [.str "told", .int (valI l ns)], .list [.str "told", .int (valI l ns)]]) ⟨by show 2 ≤ 1000; decide, fun e he => ?_⟩ (ty_lstD (ds := [.list [.str "told", .int (valI l ns)], .list [.str "told", .int (valI l ns)]]) (tya_cons (ty_ask1 fl hl.ok fi hn (ty_var rfl) (ty_var rfl) (ty_var rfl)) (tya_cons (ty_ask1 fl hl.ok fi hn (ty_var rfl) (ty_var rfl) (ty_notV (ty_var rfl))) tya_nil)) (by show 2 ≤ 1000000; decide)) (ty_lstD (ds := [.list [.str "told", .int (valI l ns)], .list [.str "told", .int (valI l ns)]]) (tya_cons (ty_var rfl) (tya_cons (ty_var rfl) tya_nil)) (by show 2 ≤ 1000000; decide))) (fun z => Bool.noConfusion z) fun _ => tys_next) fun σ H g => ⟨(), g.1, EnvL.less (by exact ⟨fun _ _ _ _ h => h, fun _ _ _ _ h => h, fun _ _ _ _ h => h, fun _ _ _ _ h => ⟨b, h⟩, trivial⟩) g.2⟩
    have e2 : e = .list [.str "told", .int (valI l ns)] := by simpa using he
    rw [e2]
    exact smT (n := 6) trivial
  -- near ones
  refine tys_seqE (W' := W) (Γ' := [some bx, some (dt K (.int (n : Nat))), some (nmT K up (polD l)), some (boolsT K), none, none, none, none, none, none, none, none]) ?_ (TyS.never (tys_retW ty_bl))
  refine tys_forX (K := K) (ty_call (l, n) ⟨hl, hn⟩ (tya_cons (ty_var rfl) (tya_cons (ty_nmD rfl) (tya_cons (ty_var rfl) tya_nil)))) fun ds v hds => ?_
  refine tys_for (α := Unit) (Wi := fun _ _ => Wd.kn W v (dt K (.list ds))) (Γi := fun _ _ => [some bx, some (dt K (.int (n : Nat))), some (nmT K up (polD l)), some (boolsT K), none, none, none, none, none, none, none, none]) () (tyi_lstD ty_kn) (fun _ _ => ⟨rfl, rfl⟩) (fun σ H g => g) (fun i T' _ hT => ?_) (fun _ σ H g => ⟨kn_out g.1, g.2⟩)
  obtain ⟨d, hd, rfl⟩ := map_get hT
  have fd : fine 6 d := hds.2 d (List.mem_of_getElem? hd)
  refine ⟨_, tyg_name 8, ?_⟩
  show TyS (Wd.kn W v (dt K (.list ds))) [some bx, some (dt K (.int (n : Nat))), some (nmT K up (polD l)), some (boolsT K), none, none, none, none, some (dt K d), none, none, none] _ _ _ _ _
  refine tys_sinceC (N' := fun Hs σ H => EnvL W.M W.B [some (frT Hs bx), some (frT Hs (dt K (.int (n : Nat)))), some (frT Hs (nmT K up (polD l))), some (boolsT K), none, none, none, none, none, none, none, none] σ H) (fun Hs c0 => ?_) (fun Hs σ H c0 c g => ⟨(), ⟨c.box, c.al, c.ex, c.own.1⟩, unfr (by
    have e : Exm W.M W.B Hs H := Ex.toM c.own.2 W.sub
    exact ⟨fun v z => Typ.up _ e z.2, fun v z => Typ.up _ e z.2, fun v z => Typ.up _ e z.2, fun v z => z, trivial⟩) g⟩)
  show TyV ((Wd.kn W v (dt K (.list ds))).since Hs) [some (frT Hs bx), some (frT Hs (dt K (.int (n : Nat)))), some (frT Hs (nmT K up (polD l))), some (frT Hs (boolsT K)), none, none, none, none, some (frT Hs (dt K d)), none, none, none] _ _ _
  refine TyV.slot (i := 3) (T' := boolsT K) rfl (fun v H z => boolsT_stay z.2) ?_
  refine TyV.openX (i := 3) rfl fun b => ?_
  show TyV ((Wd.kn W v (dt K (.list ds))).since Hs) [some (frT Hs bx), some (frT Hs (dt K (.int (n : Nat)))), some (frT Hs (nmT K up (polD l))), some (dt K (.bool b)), none, none, none, none, some (frT Hs (dt K d)), none, none, none] _ _ _
  refine tyv_seqS (tys_par (tya_cons (ty_copy (fine_up (fine_up fd)) (ty_fr rfl)) (tya_cons (ty_call (d, n) ⟨fd, hn⟩ (tya_cons (ty_fr rfl) (tya_cons (ty_fr rfl) tya_nil))) tya_nil))) ?_
  refine TyV.copied (i := 9) rfl fun u fr => ?_
  show TyV ((Wd.kn W v (dt K (.list ds))).since Hs) [some (frT Hs bx), some (frT Hs (dt K (.int (n : Nat)))), some (frT Hs (nmT K up (polD l))), some (dt K (.bool b)), none, none, none, none, some (frT Hs (dt K d)), some (nmT K u d), some (dt K (.bool (polyB n d))), none] _ _ _
  refine tyv_guard (φ := (· = false)) (Tt.is (tt_orB (a := false) (b := false) (tt_same (d := .list [.str "told", .bool (polyB n d)]) (smT (n := 7) trivial) (ty_ask0 fd hn (ty_var rfl) (ty_fr rfl) (ty_var rfl)) (ty_told (ty_var rfl))) fun _ => tt_same (fine_8 fd) (ty_nmD rfl) (ty_fr rfl)) rfl) (fun z => Bool.noConfusion z) fun _ => ?_
  refine tyv_seqS (tys_set (ty_call n hn (tya_cons (ty_fr rfl) (tya_cons (ty_fr rfl) tya_nil)))) ?_
  refine TyV.openX (i := 6) rfl fun ns => TyV.openG (i := 6) rfl fun hns => TyV.nameV (i := 6) rfl fun un => ?_
  obtain ⟨hns, hnb⟩ := hns
  subst hns
  show TyV ((Wd.kn W v (dt K (.list ds))).since Hs) [some (frT Hs bx), some (frT Hs (dt K (.int (ns.length : Nat)))), some (frT Hs (nmT K up (polD l))), some (dt K (.bool b)), none, none, some (nmT K un (intsD ns)), none, some (frT Hs (dt K d)), some (nmT K u d), some (dt K (.bool (polyB ns.length d))), none] _ _ _
  have fi : fine 6 (intsD ns) := (fine_ints' (n := 4) (by omega) hnb).1
  cases hp : polyB ns.length d with
  | true =>
    obtain ⟨l', rfl, hpok⟩ := poly_of hp
    have vc : ValC l' ns := pol_valC fd hpok fi hn
    refine tyv_seqS (tys_par (A := dt K (.int (valI l' ns))) (C := dt K (.list [.str "told", .int (valI l' ns)])) (tya_cons (ty_if (φ := (· = true)) (tt_B (ty_var rfl)) (fun _ => ty_call (l', ns) vc (tya_cons (ty_fr rfl) (tya_cons (ty_nmD rfl) tya_nil))) fun z => Bool.noConfusion z) (tya_cons (ty_ask1 fd hpok fi hn (ty_var rfl) (ty_var rfl) (ty_notV (ty_var rfl))) tya_nil))) ?_
    refine tyv_guard (φ := (· = false)) (Tt.is (tt_andB (a := true) (b := false) (tt_B (ty_var rfl)) fun _ => tt_same (d := .list [.str "told", .int (valI l' ns)]) (smT (n := 7) trivial) (ty_var rfl) (ty_told (ty_var rfl))) rfl) (fun z => Bool.noConfusion z) fun _ => ?_
    refine tyv_guard (φ := (· = false)) (tt_andF (Tt.is (tt_notB (a := true) (tt_B (ty_var rfl))) rfl)) (fun z => Bool.noConfusion z) fun _ => ?_
    exact (tyv_set (ty_turn (ty_var rfl))).imp fun σ H g => ⟨g.1, EnvL.less (by exact ⟨fun _ _ _ _ h => h, fun _ _ _ _ h => h, fun _ _ _ _ h => h, fun _ _ _ _ h => h, trivial⟩) g.2⟩
  | false =>
    refine tyv_seqS (tys_par (A := dt K .none) (C := lstT [dt K (.str "polynomial"), nmT K u d]) (tya_cons (ty_if (φ := (· = false)) (tt_B (ty_var rfl)) (fun z => Bool.noConfusion z) fun _ => ty_non) (tya_cons (ty_ask2 fd hp fi hn (ty_var rfl) (ty_var rfl) (ty_notV (ty_var rfl))) tya_nil))) ?_
    refine tyv_guard (φ := (· = false)) (tt_andF (tt_B (ty_var rfl))) (fun z => Bool.noConfusion z) fun _ => ?_
    refine tyv_very (u := u) (d := d) (Γ' := [some (frT Hs bx), some (frT Hs (dt K (.int (ns.length : Nat)))), some (frT Hs (nmT K up (polD l))), some (dt K (.bool b)), none, none, none, none, none, none, none, none]) c0 fr (ttv_and (Tt.is (tt_notB (a := false) (tt_B (ty_var rfl))) rfl) (ttv_or (Tt.is (tt_test (ty_op (ty_op (ty_var rfl) (ty_int (K := K)) (opt_ixLT (n := 0) rfl)) (ty_str (K := K)) opt_neS)) (by simp)) (ttv_very fd (tya_cons (ty_op (ty_var rfl) (ty_int (K := K)) (opt_ixLT (n := 1) rfl)) (tya_cons (ty_var rfl) tya_nil))))) ?_ ?_
    · exact ⟨fun v H H2 n z => ⟨n, z.2⟩, fun v H H2 n z => ⟨n, z.2⟩, fun v H H2 n z => ⟨n, z.2⟩, fun v H H2 n z => by cases z; exact .bl _, trivial⟩
    exact (tyv_set (ty_turn (ty_var rfl))).imp fun σ H g => ⟨g.1, EnvL.less (by exact ⟨fun _ _ _ _ h => h, fun _ _ _ _ h => h, fun _ _ _ _ h => h, fun _ _ _ _ h => h, trivial⟩) g.2⟩
end
section
variable {P : Program} {w : World} {K : PySem.W.Frag} {mg : Str → Option Value} {base : Heap}
section
variable {W : Wd} {Γ : Gam} {K : PySem.W.Frag} {E : XK} {u v : V} {d e : PyData} {tc td te tf : TE} {b : Bool} {n : Nat} {ns : List Int} {l : List Term} {ds : List PyData}
theorem ty_askX {k : Nat} {T1 T2 U : Typ} (h0 : Ty W Γ tc (dt K (.int (k : Nat)))) (h1 : Ty W Γ td T1) (h2 : Ty W Γ te T2) (h3 : Ty W Γ tf (dt K (.bool b)))
    (hk : ∀ u v H, T1.p W.M W.B u H → T2.p W.M W.B v H → ∃ d e, (dt K d).p W.M W.B u H ∧ (dt K e).p W.M W.B v H ∧ (fine 6 d ∧ (k ≠ 0 → fine 6 e)) ∧ ∀ w H', (askT K (askO ⟨k, u, d, v, e, b⟩) (askD ⟨k, u, d, v, e, b⟩)).p W.M W.B w H' → U.p W.M W.B w H') :
    Ty W Γ (tCall (sp_law_asked K) [] E (tCons tc (tCons td (tCons te (tCons tf tNil))))) U := fun σ H c g Q q =>
  (tya_cons h0 (tya_cons h1 (tya_cons h2 (tya_cons h3 tya_nil)))) σ H c g _ fun vs H1 e1 hv => by
    match vs, hv with
    | [a1, a2, a3, a4], ⟨z1, z2, z3, z4, _⟩ =>
      obtain ⟨d, e, y1, y2, y3, y4⟩ := hk a2 a3 H1 z2 z3
      exact ⟨W.M, W.B, ⟨k, a2, d, a3, e, b⟩, W.sub, (c.up e1).box, (c.up e1).al, y3, ⟨z1, ⟨rfl, y1⟩, ⟨rfl, y2⟩, z4, True.intro⟩, fun w H2 e2 h2 => q w H2 (e1.trans e2) (y4 w H2 h2)⟩
/-- asked with a wrong number of items -/
theorem ty_askC (hd : ∀ d ∈ ds, fine 6 d) (hc : cntB e = false) (h1 : Ty W Γ td (exT fun d : PyData => gd (d ∈ ds) (dt K d))) (h2 : Ty W Γ te (nmT K v e)) (h3 : Ty W Γ tf (dt K (.bool b))) :
    Ty W Γ (tCall (sp_law_asked K) [] E (tCons (tC (.int 0)) (tCons td (tCons te (tCons tf tNil))))) (lstT [dt K (.str "count"), nmT K v e]) := ty_askX (k := 0) (ty_int (K := K)) h1 h2 h3 fun u v' H ⟨d, hm, z1⟩ ⟨z2, z3⟩ => ⟨d, e, z1, z3, ⟨hd d hm, fun z => absurd rfl z⟩, fun w H' z => by
  have z2 : v' = v := z2
  subst z2
  have a1 : askO ⟨0, u, d, v', e, b⟩ = some (.cnt, v', e) := by
    show (if cntB e = true then none else some (K3.cnt, v', e)) = _
    rw [if_neg (by rw [hc]; exact Bool.false_ne_true)]
  rw [a1] at z
  exact z⟩
/-- asked with wrong items -/
theorem ty_askI (hd : ∀ d ∈ ds, fine 6 d) (he : fine 6 e) (hc : itmB e = false) (h1 : Ty W Γ td (exT fun d : PyData => gd (d ∈ ds) (dt K d))) (h2 : Ty W Γ te (nmT K v e)) (h3 : Ty W Γ tf (dt K (.bool b))) :
    Ty W Γ (tCall (sp_law_asked K) [] E (tCons (tC (.int 1)) (tCons td (tCons te (tCons tf tNil))))) (lstT [dt K (.str "items"), nmT K v e]) := ty_askX (k := 1) (ty_int (K := K)) h1 h2 h3 fun u v' H ⟨d, hm, z1⟩ ⟨z2, z3⟩ => ⟨d, e, z1, z3, ⟨hd d hm, fun z => he⟩, fun w H' z => by
  have z2 : v' = v := z2
  subst z2
  have a1 : askO ⟨1, u, d, v', e, b⟩ = some (.itm, v', e) := by
    show (if itmB e = true then _ else some (K3.itm, v', e)) = _
    rw [if_neg (by rw [hc]; exact Bool.false_ne_true)]
  rw [a1] at z
  exact z⟩
/-- asked with another number of items -/
theorem ty_askP (hf : fine 6 d) (hp : polyB ns.length d = false) (hi : fine 6 (intsD ns)) (hn : ns.length ≤ 2) (h1 : Ty W Γ td (dt K d)) (h2 : Ty W Γ te (dt K (intsD ns))) (h3 : Ty W Γ tf (dt K (.bool b))) :
    Ty W Γ (tCall (sp_law_asked K) [] E (tCons (tC (.int 1)) (tCons td (tCons te (tCons tf tNil))))) (dt K (.list [.str "polynomial", d])) := ty_askX (k := 1) (ty_int (K := K)) h1 h2 h3 fun u v H z1 z2 => ⟨d, intsD ns, z1, z2, ⟨hf, fun z => hi⟩, fun w H' z => by
  have a1 : askO ⟨1, u, d, v, intsD ns, b⟩ = some (.pol, u, d) := by
    show (if itmB (intsD ns) = true then (if polyB (sizeD (intsD ns)) d = true then none else some (K3.pol, u, d)) else _) = _
    rw [if_pos (itm_ints hn), size_ints, if_neg (by rw [hp]; exact Bool.false_ne_true)]
  rw [a1] at z
  obtain ⟨p, xs, rfl, nm, q1, q2⟩ := z
  match xs, q2 with
  | [x1, x2], ⟨y1, y2, _⟩ => exact .lst q1 nm (.cons y1 (.cons y2.2 .nil))⟩
end
/-- something fine, not so -/
def badT (K : PySem.W.Frag) (f : PyData → Bool) : Typ := exT fun d : PyData => gd (fine 6 d ∧ f d = false) (dt K d)
theorem bt_of {W : Wd} {Γ : Gam} {K : PySem.W.Frag} {te : TE} {f : PyData → Bool} {d : PyData} (h : Ty W Γ te (dt K d)) (hf : fine 6 d) (hc : f d = false) : Ty W Γ te (badT K f) := h.sub fun v H _ z => ⟨d, ⟨hf, hc⟩, z⟩
theorem ty_dict0 {W : Wd} {Γ : Gam} {K : PySem.W.Frag} : Ty W Γ tDNewK (dt K (.dict [])) := fun σ H c g Q q => fun p hp => q _ _ (Ex.new hp) (.dic upd_same .nil)
theorem other_pol {n m : Nat} {l : List Term} (h : PolD n l) (ne : l ≠ []) (hm : m ≠ n) : polyB m (polD l) = false := by
  cases hp : polyB m (polD l) with
  | false => rfl
  | true =>
    obtain ⟨l', e, hok⟩ := poly_of hp
    have e2 : l = l' := by rw [← terms_pol l, e, terms_pol]
    subst e2
    match l, ne with
    | t :: l, _ => exact absurd ((hok.ok t (.head _)).len.symm.trans (h.ok.ok t (.head _)).len) hm
def sp_law_refused_right (K : PySem.W.Frag) : Sp := spT (fun x : List Term × Nat × Bool => PolD x.2.1 x.1 ∧ x.2.1 ≤ 2) (fun x => [bx, dt K (.int (x.2.1 : Nat)), dt K (polD x.1), dt K (.bool x.2.2)]) (fun _ => dt K (.bool true))
theorem ok_law_refused_right (T : Tx P K mg) : FnOk P w K mg base (L2.CX P w) 10 T.a_law_refused_right T.f_law_refused_right ["box", "items", "polynomial", "by_name"] (sp_law_refused_right K) := by
  have G_law_items := ok_law_items (w := w) (base := base) T
  have G_law_copy := ok_law_copy (w := w) (base := base) T
  have G_law_asked := ok_law_asked (w := w) (base := base) T
  have G_law_pick := ok_law_pick (w := w) (base := base) T
  have G_law_very := ok_law_very (w := w) (base := base) T
  have G_law_same := ok_law_same (w := w) (base := base) T
  have nd := sc_law_refused_right.nd
  refine fn_ty T.F_law_refused_right sc_law_refused_right (fun x _ => rfl) fun cdv Ar outer s H E hr => ⟨_, (pss_cons (ps_for PassesOwn.never rfl (k_ilist (K := K) rfl (pe_lst (pa_cons (pe_un un_neg pe_int) (pa_cons pe_int (pa_cons pe_bl (pa_cons pe_bl (pa_cons pe_non (pa_cons pe_str (pa_cons (pe_tup (pa_cons pe_int pa_nil)) (pa_cons (pe_lst (pa_cons pe_int pa_nil)) (pa_cons pe_dnewK (pa_cons (pe_op op_pow pe_int pe_int) pa_nil)))))))))))) (pgn 4 nd) (pss_cons (pset 5 nd (pcall G_law_copy (hr.mono (by decide)) T.D_law_copy (pa_cons (pv 4) pa_nil)))
    (pss_cons (pset 6 nd (pcall G_law_asked (hr.mono (by decide)) T.D_law_asked (pa_cons pe_int (pa_cons (pcall G_law_pick (hr.mono (by decide)) T.D_law_pick (pa_cons (pv 0) (pa_cons (pe_lst (pa_cons (pv 2) (pa_cons pe_non (pa_cons (pe_tup pa_nil) (pa_cons pe_int pa_nil))))) pa_nil))) (pa_cons (pv 5) (pa_cons (pv 3) pa_nil))))))
    (pss_cons (ps_if (PW.pt (pw_or (pt_cmpR (k_ne (K := K) rfl hr.units) (pe_ix (k_ix (K := K) rfl) (pv 6) pe_int (fun _ _ => rfl)) pe_str (nomark _)) (pw_or1 (pt_not (pt_val (pcall G_law_very (hr.mono (by decide)) T.D_law_very (pa_cons (pe_ix (k_ix (K := K) rfl) (pv 6) pe_int (fun _ _ => rfl)) (pa_cons (pv 5) pa_nil)))))))) (pss_one (ps_ret pe_bl)) pss_nil)
    (pss_one (pset 3 nd (pe_not (pv 3))))))))
    (pss_cons (pset 7 nd (pcall G_law_items (hr.mono (by decide)) T.D_law_items (pa_cons (pv 0) (pa_cons (pv 1) pa_nil))))
    (pss_cons (ps_for PassesOwn.never rfl (k_ilist (K := K) rfl (pe_lst (pa_cons (k_list (K := K) rfl T.m_list (pa_cons (pv 7) pa_nil)) (pa_cons (pe_tup (pa_cons pe_int (pa_cons pe_int (pa_cons pe_int pa_nil)))) (pa_cons (pe_op (k_add (K := K) rfl) (pe_slice (k_sl (K := K) rfl) (pv 7) po_none (po_some (pe_un un_neg pe_int))) (pe_tup (pa_cons pe_bl pa_nil))) (pa_cons (pe_tup (pa_cons pe_non pa_nil)) (pa_cons (pe_tup (pa_cons pe_str pa_nil)) (pa_cons (pe_tup (pa_cons (pe_tup (pa_cons pe_int pa_nil)) pa_nil)) (pa_cons pe_non (pa_cons pe_int (pa_cons pe_str (pa_cons pe_dnewK (pa_cons pe_bl (pa_cons (pe_tup (pa_cons pe_int (pa_cons (pe_lst (pa_cons pe_int pa_nil)) pa_nil))) (pa_cons (pe_tup (pa_cons pe_int (pa_cons pe_bl pa_nil))) (pa_cons (pe_tup (pa_cons (pe_lst pa_nil) pa_nil)) pa_nil)))))))))))))))) (pgn 4 nd) (pss_cons (pset 5 nd (pcall G_law_copy (hr.mono (by decide)) T.D_law_copy (pa_cons (pv 4) pa_nil)))
    (pss_cons (pset 6 nd (pcall G_law_asked (hr.mono (by decide)) T.D_law_asked (pa_cons pe_int (pa_cons (pcall G_law_pick (hr.mono (by decide)) T.D_law_pick (pa_cons (pv 0) (pa_cons (pe_lst (pa_cons (pv 2) (pa_cons pe_non (pa_cons (pe_tup pa_nil) (pa_cons pe_int pa_nil))))) pa_nil))) (pa_cons (pv 5) (pa_cons (pv 3) pa_nil))))))
    (pss_cons (ps_if (PW.pt (pw_or (pt_cmpR (k_ne (K := K) rfl hr.units) (pe_ix (k_ix (K := K) rfl) (pv 6) pe_int (fun _ _ => rfl)) pe_str (nomark _)) (pw_or1 (pt_not (pt_val (pcall G_law_very (hr.mono (by decide)) T.D_law_very (pa_cons (pe_ix (k_ix (K := K) rfl) (pv 6) pe_int (fun _ _ => rfl)) (pa_cons (pv 5) pa_nil)))))))) (pss_one (ps_ret pe_bl)) pss_nil)
    (pss_one (pset 3 nd (pe_not (pv 3))))))))
    (pss_cons (pset 8 nd (pe_ifExp (pt_cmpR (k_ne (K := K) rfl hr.units) (pv 2) (pe_tup pa_nil) (nomark _)) (pv 2) (pe_tup (pa_cons (pe_tup (pa_cons (pe_op (k_repAll (K := K) rfl) (pe_tup (pa_cons pe_int pa_nil)) (pv 1)) (pa_cons pe_int pa_nil))) pa_nil))))
    (pss_cons (ps_for PassesOwn.never rfl (pi_range1 rfl T.m_range (pa_cons pe_int pa_nil)) (pgn 9 nd) (pss_one (ps_if (PW.pt (pw_and (pt_cmpR (k_ne (K := K) rfl hr.units) (pv 9) (pv 1) (nomark _)) (pw_and1 (pt_not (pt_val (pcall G_law_same (hr.mono (by decide)) T.D_law_same (pa_cons (pcall G_law_asked (hr.mono (by decide)) T.D_law_asked (pa_cons pe_int (pa_cons (pv 8) (pa_cons (pe_op (k_repAll (K := K) rfl) (pe_tup (pa_cons pe_int pa_nil)) (pv 9)) (pa_cons (pv 3) pa_nil))))) (pa_cons (pe_lst (pa_cons pe_str (pa_cons (pv 8) pa_nil))) pa_nil)))))))) (pss_one (ps_ret pe_bl)) pss_nil)))
    (pss_one (ps_ret pe_bl))))))), fun W x hC => ?_⟩
  obtain ⟨l, n, b0⟩ := x
  obtain ⟨hl, hn⟩ : PolD n l ∧ n ≤ 2 := hC
  have fl : fine 6 (polD l) := fine_up (fine_pol (n := 1) hn hl)
  have fours : ∀ d ∈ [polD l, .none, .tuple [], .int 7], fine 6 d := fun d hd => by
    rcases List.mem_cons.mp hd with rfl | hd
    · exact fl
    rcases List.mem_cons.mp hd with rfl | hd
    · exact trivial
    rcases List.mem_cons.mp hd with rfl | hd
    · exact ⟨by show 0 < 60; decide, fun e he => by cases he⟩
    rw [List.mem_singleton.mp hd]
    show bd 200 7
    exact bd_small (by decide)
  show TyS W [some bx, some (dt K (.int (n : Nat))), some (dt K (polD l)), some (dt K (.bool b0)), none, none, none, none, none, none] _ _ _ _ _
  have pick : ∀ (Hs : Hp) (W : Wd) (Γ : Gam), Γ[0]? = some (some (frT Hs bx)) → Γ[2]? = some (some (frT Hs (dt K (polD l)))) → Ty (W.since Hs) Γ (tCall (sp_law_pick K) [] E0 (tCons (tVar 0) (tCons (tLst (tCons (tVar 2) (tCons (tC .non) (tCons (tTup tNil) (tCons (tC (.int 7)) tNil))))) tNil))) (exT fun d : PyData => gd (d ∈ [polD l, .none, .tuple [], .int 7]) (dt K d)) := fun Hs W Γ h0 h2 =>
    ty_call [polD l, .none, .tuple [], .int 7] ⟨by show 0 < 4; decide, by show 4 ≤ 1000; decide⟩ (tya_cons (ty_fr h0) (tya_cons (ty_lstD (ds := [polD l, .none, .tuple [], .int 7]) (tya_cons (ty_fr h2) (tya_cons ty_non (tya_cons (ty_tupD (ds := []) tya_nil (by decide)) (tya_cons ty_int tya_nil)))) (by show 4 ≤ 1000000; decide)) tya_nil))
  have ten : bd 200 ((10 : Int) ^ (30 : Int).toNat) := by
    show (10 ^ 30 : Int).natAbs < 2 ^ 200
    decide +kernel
  have one1 : fine 5 (.int 1) := bd_small (by decide)
  -- wrong numbers of items
  refine tys_seqE (W' := W) (Γ' := [some bx, some (dt K (.int (n : Nat))), some (dt K (polD l)), some (boolsT K), none, none, none, none, none, none]) ?_ ?_
  · refine tys_for (α := Unit) (Ts := List.replicate 10 (badT K cntB)) (Wi := fun _ _ => W) (Γi := fun _ _ => [some bx, some (dt K (.int (n : Nat))), some (dt K (polD l)), some (boolsT K), none, none, none, none, none, none]) () ?hi (fun _ _ => Wd.Like.refl W) (fun σ H g => ⟨g.1, EnvL.less (by exact ⟨fun _ _ _ _ h => h, fun _ _ _ _ h => h, fun _ _ _ _ h => h, fun _ _ _ _ h => ⟨b0, h⟩, trivial⟩) g.2⟩) (fun i T' _ hT => ?_) (fun _ σ H g => g)
    case hi =>
      exact tyi_lst (TyL.ty (tyl_lst (tya_cons (bt_of (d := .int (-1)) (ty_un ty_int unt_neg) (bd_small (by decide)) rfl) (tya_cons (bt_of ty_int (bd_small (by decide)) rfl) (tya_cons (bt_of ty_bl trivial rfl) (tya_cons (bt_of ty_bl trivial rfl) (tya_cons (bt_of ty_non trivial rfl) (tya_cons (bt_of ty_str (by show ("1" : Str).length ≤ 100; decide) rfl) (tya_cons (bt_of (ty_tupD (ds := [.int 1]) (tya_cons ty_int tya_nil) (by show 1 ≤ 1000000; decide)) ⟨by show 1 < 60; decide, fun e he => by rw [List.mem_singleton.mp he]; exact one1⟩ rfl) (tya_cons (bt_of (ty_lstD (ds := [.int 1]) (tya_cons ty_int tya_nil) (by show 1 ≤ 1000000; decide)) ⟨by show 1 < 60; decide, fun e he => by rw [List.mem_singleton.mp he]; exact ⟨one1, trivial⟩⟩ rfl) (tya_cons (bt_of ty_dict0 rfl rfl) (tya_cons (bt_of (ty_op ty_int ty_int (opt_pow ⟨by decide, by decide, by decide⟩)) ten (by decide +kernel)) tya_nil)))))))))) (by rw [List.length_replicate]; decide)))
    obtain rfl := rep_get hT
    refine ⟨_, tyg_name 4, ?_⟩
    show TyS W [some bx, some (dt K (.int (n : Nat))), some (dt K (polD l)), some (boolsT K), some (badT K cntB), none, none, none, none, none] _ _ _ _ _
    refine TyS.openX (n := 4) rfl fun d => TyS.openG (n := 4) rfl fun hd => ?_
    obtain ⟨fd, hc⟩ := hd
    show TyS W [some bx, some (dt K (.int (n : Nat))), some (dt K (polD l)), some (boolsT K), some (dt K d), none, none, none, none, none] _ _ _ _ _
    refine tys_sinceC (N' := fun Hs σ H => EnvL W.M W.B [some (frT Hs bx), some (frT Hs (dt K (.int (n : Nat)))), some (frT Hs (dt K (polD l))), some (boolsT K), none, none, none, none, none, none] σ H) (fun Hs c0 => ?_) (fun Hs σ H c0 c g => ⟨(), ⟨c.box, c.al, c.ex, c.own.1⟩, unfr (by
      have e : Exm W.M W.B Hs H := Ex.toM c.own.2 W.sub
      exact ⟨fun v z => Typ.up _ e z.2, fun v z => Typ.up _ e z.2, fun v z => Typ.up _ e z.2, fun v z => z, trivial⟩) g⟩)
    show TyV (W.since Hs) [some (frT Hs bx), some (frT Hs (dt K (.int (n : Nat)))), some (frT Hs (dt K (polD l))), some (frT Hs (boolsT K)), some (frT Hs (dt K d)), none, none, none, none, none] _ _ _
    refine TyV.slot (i := 3) (T' := boolsT K) rfl (fun v H z => boolsT_stay z.2) ?_
    refine TyV.openX (i := 3) rfl fun b => ?_
    show TyV (W.since Hs) [some (frT Hs bx), some (frT Hs (dt K (.int (n : Nat)))), some (frT Hs (dt K (polD l))), some (dt K (.bool b)), some (frT Hs (dt K d)), none, none, none, none, none] _ _ _
    refine tyv_seqS (tys_set (ty_copy (fine_up (fine_up fd)) (ty_fr rfl))) ?_
    refine TyV.copied (i := 5) rfl fun u fr => ?_
    show TyV (W.since Hs) [some (frT Hs bx), some (frT Hs (dt K (.int (n : Nat)))), some (frT Hs (dt K (polD l))), some (dt K (.bool b)), some (frT Hs (dt K d)), some (nmT K u d), none, none, none, none] _ _ _
    refine tyv_seqS (tys_set (ty_askC fours hc (pick Hs _ _ rfl rfl) (ty_var rfl) (ty_var rfl))) ?_
    refine tyv_very (u := u) (d := d) (Γ' := [some (frT Hs bx), some (frT Hs (dt K (.int (n : Nat)))), some (frT Hs (dt K (polD l))), some (dt K (.bool b)), none, none, none, none, none, none]) c0 fr (ttv_or (Tt.is (tt_test (ty_op (ty_op (ty_var rfl) (ty_int (K := K)) (opt_ixLT (n := 0) rfl)) (ty_str (K := K)) opt_neS)) (by simp)) (ttv_very fd (tya_cons (ty_op (ty_var rfl) (ty_int (K := K)) (opt_ixLT (n := 1) rfl)) (tya_cons (ty_var rfl) tya_nil)))) ?_ ?_
    · exact ⟨fun v H H2 n z => ⟨n, z.2⟩, fun v H H2 n z => ⟨n, z.2⟩, fun v H H2 n z => ⟨n, z.2⟩, fun v H H2 n z => by cases z; exact .bl _, trivial⟩
    exact (tyv_set (ty_turn (ty_var rfl))).imp fun σ H g => ⟨g.1, EnvL.less (by exact ⟨fun _ _ _ _ h => h, fun _ _ _ _ h => h, fun _ _ _ _ h => h, fun _ _ _ _ h => h, trivial⟩) g.2⟩
  -- wrong items
  refine tys_seqE (tys_set (ty_call n hn (tya_cons (ty_var rfl) (tya_cons (ty_var rfl) tya_nil)))) ?_
  refine TyS.openX (n := 7) rfl fun ns => TyS.openG (n := 7) rfl fun hns => ?_
  obtain ⟨hns, hnb⟩ := hns
  have fi : fine 6 (intsD ns) := (fine_ints' (n := 4) (by omega) hnb).1
  show TyS W [some bx, some (dt K (.int (n : Nat))), some (dt K (polD l)), some (boolsT K), none, none, none, some (dt K (intsD ns)), none, none] _ _ _ _ _
  refine tys_seqE (W' := W) (Γ' := [some bx, some (dt K (.int (n : Nat))), some (dt K (polD l)), some (boolsT K), none, none, none, none, none, none]) ?_ ?_
  · refine tys_for (α := Unit) (Ts := List.replicate 14 (badT K itmB)) (Wi := fun _ _ => W) (Γi := fun _ _ => [some bx, some (dt K (.int (n : Nat))), some (dt K (polD l)), some (boolsT K), none, none, none, none, none, none]) () ?hj (fun _ _ => Wd.Like.refl W) (fun σ H g => ⟨g.1, EnvL.less (by exact ⟨fun _ _ _ _ h => h, fun _ _ _ _ h => h, fun _ _ _ _ h => h, fun _ _ _ _ h => h, trivial⟩) g.2⟩) (fun i T' _ hT => ?_) (fun _ σ H g => g)
    case hj =>
      have tup1 : ∀ {f : PyData → Bool} {te : TE} {d : PyData}, fine 5 d → f (.tuple [d]) = false → Ty W [some bx, some (dt K (.int (n : Nat))), some (dt K (polD l)), some (boolsT K), none, none, none, some (dt K (intsD ns)), none, none] te (dt K d) → Ty W [some bx, some (dt K (.int (n : Nat))), some (dt K (polD l)), some (boolsT K), none, none, none, some (dt K (intsD ns)), none, none] (tTup (tCons te tNil)) (badT K f) := fun {f te d} hf hc h => bt_of (ty_tupD (ds := [d]) (tya_cons h tya_nil) (by show 1 ≤ 1000000; decide)) ⟨by show 1 < 60; decide, fun e he => by rw [List.mem_singleton.mp he]; exact hf⟩ hc
      have cutB : ∀ d ∈ cutD (ns.map PyData.int) none (some (-1)), ∃ i : Int, d = .int i ∧ bd 200 i := fun d hd => by
        obtain ⟨i, hi, rfl⟩ := List.mem_map.mp (List.mem_of_mem_drop (List.mem_of_mem_take hd))
        exact ⟨i, rfl, hnb i hi⟩
      have cutL : (cutD (ns.map PyData.int) none (some (-1))).length ≤ 2 := by unfold cutD; rw [List.length_take, List.length_drop, List.length_map]; omega
      have j1 : Ty W [some bx, some (dt K (.int (n : Nat))), some (dt K (polD l)), some (boolsT K), none, none, none, some (dt K (intsD ns)), none, none] (tOp (rAddA K) (tSl (rSlAll K) (tVar 7) tNoPart (tPart (tUn (rU fun i => .int (-i)) (tC (.int 1))))) (tTup (tCons (tC (.bl true)) tNil))) (badT K itmB) := by
        refine bt_of (d := .tuple (cutD (ns.map PyData.int) none (some (-1)) ++ [.bool true])) (ty_op (ty_slT (ty_var (T := dt K (.tuple (ns.map PyData.int))) rfl) tyo_none (tyo_some (ty_un (ty_int (K := K)) unt_neg))) (ty_tupD (ds := [.bool true]) (tya_cons ty_bl tya_nil) (by show 1 ≤ 1000000; decide)) (opt_catT (by rw [show ([PyData.bool true]).length = 1 from rfl]; omega))) ⟨by rw [List.length_append, show ([PyData.bool true]).length = 1 from rfl]; omega, fun e he => ?_⟩ ?_
        · rcases List.mem_append.mp he with h | h
          · obtain ⟨i, rfl, hb⟩ := cutB e h
            exact hb
          · rw [List.mem_singleton.mp h]; exact trivial
        · show (decide _ && List.all _ isWholeD) = false
          rw [List.all_append]
          show (_ && (_ && false)) = false
          rw [Bool.and_false, Bool.and_false]
      exact tyi_lst (TyL.ty (tyl_lst (tya_cons (bt_of (listOf (ty_var rfl)) ⟨by rw [List.length_map]; omega, fun e he => by
        obtain ⟨i, hi, rfl⟩ := List.mem_map.mp he
        exact ⟨hnb i hi, trivial⟩⟩ rfl) (tya_cons (bt_of (ty_tupD (ds := [.int 1, .int 2, .int 3]) (tya_cons ty_int (tya_cons ty_int (tya_cons ty_int tya_nil))) (by show 3 ≤ 1000000; decide)) ⟨by show 3 < 60; decide, fun e he => by
          rcases List.mem_cons.mp he with rfl | he
          · exact one1
          rcases List.mem_cons.mp he with rfl | he
          · exact bd_small (by decide)
          rw [List.mem_singleton.mp he]
          exact bd_small (by decide)⟩ rfl) (tya_cons j1 (tya_cons (tup1 (d := .none) trivial rfl ty_non) (tya_cons (tup1 (d := .str "1") (by show ("1" : Str).length ≤ 100; decide) rfl ty_str)
        (tya_cons (tup1 (d := .tuple [.int 1]) ⟨by show 1 < 60; decide, fun e he => by rw [List.mem_singleton.mp he]; exact one1⟩ rfl (ty_tupD (ds := [.int 1]) (tya_cons ty_int tya_nil) (by show 1 ≤ 1000000; decide)))
        (tya_cons (bt_of ty_non trivial rfl) (tya_cons (bt_of ty_int (bd_small (by decide)) rfl) (tya_cons (bt_of ty_str (by show ("1" : Str).length ≤ 100; decide) rfl) (tya_cons (bt_of ty_dict0 rfl rfl) (tya_cons (bt_of ty_bl trivial rfl)
        (tya_cons (bt_of (ty_tupD (ds := [.int 1, .list [.int 2]]) (tya_cons ty_int (tya_cons (ty_lstD (ds := [.int 2]) (tya_cons ty_int tya_nil) (by show 1 ≤ 1000000; decide)) tya_nil)) (by show 2 ≤ 1000000; decide)) ⟨by show 2 < 60; decide, fun e he => by
          rcases List.mem_cons.mp he with rfl | he
          · exact one1
          rw [List.mem_singleton.mp he]
          exact ⟨by show 1 < 60; decide, fun e he => by rw [List.mem_singleton.mp he]; exact ⟨bd_small (by decide), trivial⟩⟩⟩ rfl)
        (tya_cons (bt_of (ty_tupD (ds := [.int 0, .bool false]) (tya_cons ty_int (tya_cons ty_bl tya_nil)) (by show 2 ≤ 1000000; decide)) ⟨by show 2 < 60; decide, fun e he => by
          rcases List.mem_cons.mp he with rfl | he
          · exact bd_small (by decide)
          rw [List.mem_singleton.mp he]
          exact trivial⟩ rfl)
        (tya_cons (tup1 (d := .list []) ⟨by show 0 < 60; decide, fun e he => by cases he⟩ rfl (ty_lstD (ds := []) tya_nil (by decide))) tya_nil)))))))))))))) (by rw [List.length_replicate]; decide)))
    obtain rfl := rep_get hT
    refine ⟨_, tyg_name 4, ?_⟩
    show TyS W [some bx, some (dt K (.int (n : Nat))), some (dt K (polD l)), some (boolsT K), some (badT K itmB), none, none, none, none, none] _ _ _ _ _
    refine TyS.openX (n := 4) rfl fun d => TyS.openG (n := 4) rfl fun hd => ?_
    obtain ⟨fd, hc⟩ := hd
    show TyS W [some bx, some (dt K (.int (n : Nat))), some (dt K (polD l)), some (boolsT K), some (dt K d), none, none, none, none, none] _ _ _ _ _
    refine tys_sinceC (N' := fun Hs σ H => EnvL W.M W.B [some (frT Hs bx), some (frT Hs (dt K (.int (n : Nat)))), some (frT Hs (dt K (polD l))), some (boolsT K), none, none, none, none, none, none] σ H) (fun Hs c0 => ?_) (fun Hs σ H c0 c g => ⟨(), ⟨c.box, c.al, c.ex, c.own.1⟩, unfr (by
      have e : Exm W.M W.B Hs H := Ex.toM c.own.2 W.sub
      exact ⟨fun v z => Typ.up _ e z.2, fun v z => Typ.up _ e z.2, fun v z => Typ.up _ e z.2, fun v z => z, trivial⟩) g⟩)
    show TyV (W.since Hs) [some (frT Hs bx), some (frT Hs (dt K (.int (n : Nat)))), some (frT Hs (dt K (polD l))), some (frT Hs (boolsT K)), some (frT Hs (dt K d)), none, none, none, none, none] _ _ _
    refine TyV.slot (i := 3) (T' := boolsT K) rfl (fun v H z => boolsT_stay z.2) ?_
    refine TyV.openX (i := 3) rfl fun b => ?_
    show TyV (W.since Hs) [some (frT Hs bx), some (frT Hs (dt K (.int (n : Nat)))), some (frT Hs (dt K (polD l))), some (dt K (.bool b)), some (frT Hs (dt K d)), none, none, none, none, none] _ _ _
    refine tyv_seqS (tys_set (ty_copy (fine_up (fine_up fd)) (ty_fr rfl))) ?_
    refine TyV.copied (i := 5) rfl fun u fr => ?_
    show TyV (W.since Hs) [some (frT Hs bx), some (frT Hs (dt K (.int (n : Nat)))), some (frT Hs (dt K (polD l))), some (dt K (.bool b)), some (frT Hs (dt K d)), some (nmT K u d), none, none, none, none] _ _ _
    refine tyv_seqS (tys_set (ty_askI fours fd hc (pick Hs _ _ rfl rfl) (ty_var rfl) (ty_var rfl))) ?_
    refine tyv_very (u := u) (d := d) (Γ' := [some (frT Hs bx), some (frT Hs (dt K (.int (n : Nat)))), some (frT Hs (dt K (polD l))), some (dt K (.bool b)), none, none, none, none, none, none]) c0 fr (ttv_or (Tt.is (tt_test (ty_op (ty_op (ty_var rfl) (ty_int (K := K)) (opt_ixLT (n := 0) rfl)) (ty_str (K := K)) opt_neS)) (by simp)) (ttv_very fd (tya_cons (ty_op (ty_var rfl) (ty_int (K := K)) (opt_ixLT (n := 1) rfl)) (tya_cons (ty_var rfl) tya_nil)))) ?_ ?_
    · exact ⟨fun v H H2 n z => ⟨n, z.2⟩, fun v H H2 n z => ⟨n, z.2⟩, fun v H H2 n z => ⟨n, z.2⟩, fun v H H2 n z => by cases z; exact .bl _, trivial⟩
    exact (tyv_set (ty_turn (ty_var rfl))).imp fun σ H g => ⟨g.1, EnvL.less (by exact ⟨fun _ _ _ _ h => h, fun _ _ _ _ h => h, fun _ _ _ _ h => h, fun _ _ _ _ h => h, trivial⟩) g.2⟩
  -- another number of items
  refine tys_seqE (tys_set (ty_whole hn hl (by decide) (bd_small (by decide)) (ty_var rfl) (ty_var rfl))) ?_
  refine TyS.openX (n := 8) rfl fun l1 => TyS.openG (n := 8) rfl fun hl1 => TyS.openX (n := 3) rfl fun b => ?_
  obtain ⟨hl1, ne, _⟩ := hl1
  have fl1 : fine 6 (polD l1) := fine_up (fine_pol (n := 1) hn hl1)
  show TyS W [some bx, some (dt K (.int (n : Nat))), some (dt K (polD l)), some (dt K (.bool b)), none, none, none, none, some (dt K (polD l1)), none] _ _ _ _ _
  refine tys_seqE (W' := W) (Γ' := [some bx, some (dt K (.int (n : Nat))), some (dt K (polD l)), some (dt K (.bool b)), none, none, none, none, some (dt K (polD l1)), none]) ?_ (TyS.never (tys_retW ty_bl))
  refine tys_for (α := Unit) (Wi := fun _ _ => W) (Γi := fun _ _ => [some bx, some (dt K (.int (n : Nat))), some (dt K (polD l)), some (dt K (.bool b)), none, none, none, none, some (dt K (polD l1)), none]) () (tyi_rng1 (tya_cons (ty_int (K := K) (n := 3)) tya_nil) (by decide) (by decide)) (fun _ _ => Wd.Like.refl W) (fun σ H g => g) (fun i T' _ hT => ?_) (fun _ σ H g => g)
  obtain ⟨hi, rfl⟩ := range_map_get hT
  have hi : i < 3 := hi
  refine ⟨_, tyg_name 9, ?_⟩
  show TyS W [some bx, some (dt K (.int (n : Nat))), some (dt K (polD l)), some (dt K (.bool b)), none, none, none, none, some (dt K (polD l1)), some (dt K (.int (i : Nat)))] _ _ _ _ _
  have twos : ∀ k : Nat, k ≤ 2 → (List.replicate k [PyData.int 2]).flatten = (List.replicate k (2 : Int)).map .int := fun k hk => by
    match k, hk with
    | 0, _ => rfl
    | 1, _ => rfl
    | 2, _ => rfl
  refine TyS.imp (tys_if (φ := (· = false)) ?_ (fun z => Bool.noConfusion z) fun _ => tys_next) fun σ H g => ⟨(), g.1, EnvL.less (by exact ⟨fun _ _ _ _ h => h, fun _ _ _ _ h => h, fun _ _ _ _ h => h, fun _ _ _ _ h => h, fun _ _ _ _ h => h, trivial⟩) g.2⟩
  refine Tt.is (tt_andB (a := !decide ((i : Int) = (n : Int))) (b := false) (tt_test (ty_op (ty_var rfl) (ty_var rfl) opt_neI)) fun hne => ?_) (Bool.and_false _)
  have hne : i ≠ n := fun z => by
    subst z
    simp at hne
  have np : polyB (List.replicate i (2 : Int)).length (polD l1) = false := by rw [List.length_replicate]; exact other_pol hl1 ne hne
  have f2 : fine 6 (intsD (List.replicate i (2 : Int))) := (fine_ints' (n := 4) (by rw [List.length_replicate]; omega) fun j hj => by rw [(List.mem_replicate.mp hj).2]; exact bd_small (by decide)).1
  refine tt_same (d := .list [.str "polynomial", polD l1]) ⟨by show 2 ≤ 1000; decide, fun e he => ?_⟩ (ty_askP fl1 np f2 (by rw [List.length_replicate]; omega) (ty_var rfl) (Ty.is (ty_op (ty_tupD (ds := [.int 2]) (tya_cons ty_int tya_nil) (by show 1 ≤ 1000000; decide)) (ty_var rfl) (opt_repAll (by omega) (by omega) (by simp) (by show 1 ≤ 1000; decide))) (by rw [Int.toNat_natCast, twos i (by omega)]; rfl)) (ty_var rfl)) (ty_lstD (ds := [.str "polynomial", polD l1]) (tya_cons ty_str (tya_cons (ty_var rfl) tya_nil)) (by show 2 ≤ 1000000; decide))
  rcases List.mem_cons.mp he with rfl | he
  · show ("polynomial" : Str).length ≤ 1000; decide
  · rw [List.mem_singleton.mp he]; exact smOk_up (fine_sm fl1)
end
section
variable {P : Program} {w : World} {K : PySem.W.Frag} {mg : Str → Option Value} {base : Heap}
theorem tysv4 {M B : Addr → Prop} {A1 A2 A3 A4 : Typ} {us : List V} {H : Hp} (h : TysV M B [A1, A2, A3, A4] us H) : ∃ a b c d, us = [a, b, c, d] ∧ A1.p M B a H ∧ A2.p M B b H ∧ A3.p M B c H ∧ A4.p M B d H := by
  match us, h with
  | [a, b, c, d], h => exact ⟨a, b, c, d, rfl, h.1, h.2.1, h.2.2.1, h.2.2.2.1⟩
theorem tyl_callX {W : Wd} {Γ : Gam} {tl : TA} {α : Type} {C : α → Prop} {A Ts : α → List Typ} {E : XK} {As Us : List Typ} (h : TyA W Γ tl As)
    (k : ∀ vs H, TysV W.M W.B As vs H → ∃ x, C x ∧ TysV W.M W.B (A x) vs H ∧ ∀ xs H', TysV W.M W.B (Ts x) xs H' → TysV W.M W.B Us xs H') : TyL W Γ (tCall (spL C A Ts) [] E tl) Us := fun σ H c g Q q =>
  h σ H c g _ fun vs H1 e1 hv => by
    obtain ⟨x, hC, hA, hR⟩ := k vs H1 hv
    exact ⟨W.M, W.B, x, W.sub, (c.up e1).box, (c.up e1).al, hC, by rw [List.append_nil]; exact hA, fun p xs H2 e2 hp h2 h3 => q p xs H2 (e1.trans e2) (e1.free hp) h2 (hR xs H2 h3)⟩
def bxU (K : PySem.W.Frag) : List Typ := [exT fun i : Int => dt K (.int i), exT fun b : Bool => dt K (.bool b), exT fun c : Int => gd (0 ≤ c ∧ c < 2147483629) (dt K (.int c)), exT fun i : Int => dt K (.int i)]
theorem bxU_box {K : PySem.W.Frag} {M B : Addr → Prop} {xs : List V} {H : Hp} (h : TysV M B (bxU K) xs H) : BxL xs := by
  unfold bxU at h
  obtain ⟨a, b, c, d, rfl, h1, h2, h3, h4⟩ := tysv4 h
  obtain ⟨i, h1⟩ := h1
  obtain ⟨z, h2⟩ := h2
  obtain ⟨k, hk, h3⟩ := h3
  obtain ⟨j, h4⟩ := h4
  cases h1; cases h2; cases h3; cases h4
  exact ⟨_, _, _, _, rfl, hk.1, hk.2⟩
theorem boxTs_U {K : PySem.W.Frag} {M B : Addr → Prop} {g : Int} {xs : List V} {H : Hp} (h : TysV M B (boxTs K g) xs H) : TysV M B (bxU K) xs H := by
  obtain ⟨a, b, c, d, rfl, h1, h2, h3, h4⟩ := tysv4 h
  have k1 : (exT fun i : Int => dt K (.int i)).p M B a H := ⟨absI g, h1⟩
  have k2 : (exT fun b : Bool => dt K (.bool b)).p M B b H := ⟨decide ((10 : Int) ^ (18 : Int).toNat ≤ absI g), h2⟩
  have k3 : (exT fun c : Int => gd (0 ≤ c ∧ c < 2147483629) (dt K (.int c))).p M B c H := ⟨absI g % 2147483629, ⟨Int.emod_nonneg _ (by decide), Int.emod_lt_of_pos _ (by decide)⟩, h3⟩
  have k4 : (exT fun i : Int => dt K (.int i)).p M B d H := ⟨0, h4⟩
  exact ⟨k1, k2, k3, k4, True.intro⟩
theorem env2 {M B : Addr → Prop} {A C : Typ} {σ : Sx} {H : Hp} (g : EnvL M B [some A, some C, none, none, none, none, none] σ H) : ∃ u v s2 s3 s4 s5 s6, σ = [some u, some v, s2, s3, s4, s5, s6] ∧ A.p M B u H ∧ C.p M B v H := by
  match σ, g with
  | [some u, some v, s2, s3, s4, s5, s6], g => exact ⟨u, v, s2, s3, s4, s5, s6, rfl, g.1, g.2.1⟩
theorem env1 {M B : Addr → Prop} {A : Typ} {σ : Sx} {H : Hp} (g : EnvL M B [some A, none, none, none, none, none, none] σ H) : ∃ u s1 s2 s3 s4 s5 s6, σ = [some u, s1, s2, s3, s4, s5, s6] ∧ A.p M B u H := by
  match σ, g with
  | [some u, s1, s2, s3, s4, s5, s6], g => exact ⟨u, s1, s2, s3, s4, s5, s6, rfl, g.1⟩
theorem tysv1 {M B : Addr → Prop} {A1 : Typ} {us : List V} {H : Hp} (h : TysV M B [A1] us H) : ∃ a, us = [a] ∧ A1.p M B a H := by
  match us, h with
  | [a], h => exact ⟨a, rfl, h.1⟩
theorem ty_andVX {W : Wd} {Γ : Gam} {K : PySem.W.Frag} {ta tb : TE} {a : Bool} (h1 : Ty W Γ ta (dt K (.bool a))) (h2 : Ty W Γ tb (boolsT K)) : Ty W Γ (tAndV ta tb) (boolsT K) := fun σ H c g Q q => h1 σ H c g _ fun v H1 e1 hv => by
  cases hv
  refine ⟨a, rfl, ?_⟩
  cases a with
  | true => rw [if_pos rfl]; exact h2 σ H1 (c.up e1) (g.up e1.toW) Q fun w H2 e2 z => q w H2 (e1.trans e2) z
  | false => rw [if_neg Bool.false_ne_true]; exact q _ H1 e1 ⟨false, .bl _⟩
theorem none_pol (k : Nat) : polyB k (.tuple []) = true := poly_ok (l := []) ⟨fun _ h => (by cases h), List.Pairwise.nil⟩
def sp_law (K : PySem.W.Frag) : Sp := spT (fun _ : List Int => True) (fun ns => [scrT K ns]) (fun _ => dt K (.bool true))
theorem ok_law (T : Tx P K mg) : FnOk P w K mg base (L2.CX P w) 11 T.a_law T.f_law ["script"] (sp_law K) := by
  have G_law_box := ok_law_box (w := w) (base := base) T
  have G_law_poly := ok_law_poly (w := w) (base := base) T
  have G_law_cell := ok_law_cell (w := w) (base := base) T
  have G_law_take := ok_law_take (w := w) (base := base) T
  have G_law_same := ok_law_same (w := w) (base := base) T
  have G_law_poly_right := ok_law_poly_right (w := w) (base := base) T
  have G_law_refused_right := ok_law_refused_right (w := w) (base := base) T
  have G_law_asked := ok_law_asked (w := w) (base := base) T
  have nd := sc_law.nd
  refine fn_ty T.F_law sc_law (fun x _ => rfl) fun cdv Ar outer s H E hr => ⟨_, (pss_cons (ps_for PassesOwn.never rfl (pi_range1 rfl T.m_range (pa_cons (bi_max2 T.m_max (pa_cons pe_int (pa_cons (bi_min2 T.m_min (pa_cons pe_int (pa_cons (k_len (K := K) rfl T.m_len (pa_cons (pv 0) pa_nil)) pa_nil))) pa_nil))) pa_nil)) (pgn 1 nd) (pss_cons (pset 2 nd (pcall G_law_box (hr.mono (by decide)) T.D_law_box (pa_cons (pcall G_law_cell (hr.mono (by decide)) T.D_law_cell (pa_cons (pv 0) (pa_cons (pv 1) pa_nil))) pa_nil)))
    (pss_cons (ps_par3 (i := 3) (j := 4) (l := 5) rfl nd rfl rfl rfl (by decide) (by decide) (by decide) rfl rfl rfl (pa_cons (pe_cmpR (k_eq (K := K) rfl hr.units) (pcall G_law_take (hr.mono (by decide)) T.D_law_take (pa_cons (pv 2) (pa_cons pe_int pa_nil))) pe_int (nomark _)) (pa_cons (pcall G_law_take (hr.mono (by decide)) T.D_law_take (pa_cons (pv 2) (pa_cons pe_int pa_nil))) (pa_cons (pe_and (pe_cmpR (k_eq (K := K) rfl hr.units) (pv 1) pe_int (nomark _)) (pe_one (pe_cmpR (k_eq (K := K) rfl hr.units) (pcall G_law_take (hr.mono (by decide)) T.D_law_take (pa_cons (pv 2) (pa_cons pe_int pa_nil))) pe_int (nomark _)))) pa_nil))) (by rfl))
    (pss_cons (pset 6 nd (pcall G_law_poly (hr.mono (by decide)) T.D_law_poly (pa_cons (pv 2) (pa_cons (pv 4) (pa_cons pe_int (pa_cons (pe_ifExp (pt_val (pv 5)) pe_int pe_int) pa_nil))))))
    (pss_cons (ps_if (PW.pt (pw_or (pt_not (pt_val (pcall G_law_poly_right (hr.mono (by decide)) T.D_law_poly_right (pa_cons (pv 2) (pa_cons (pv 4) (pa_cons (pv 6) (pa_cons (pv 3) pa_nil))))))) (pw_or1 (pt_not (pt_val (pcall G_law_refused_right (hr.mono (by decide)) T.D_law_refused_right (pa_cons (pv 2) (pa_cons (pv 4) (pa_cons (pv 6) (pa_cons (pe_not (pv 3)) pa_nil)))))))))) (pss_one (ps_ret pe_bl)) pss_nil)
    (pss_one (ps_if (pt_not (pt_val (pcall G_law_same (hr.mono (by decide)) T.D_law_same (pa_cons (pcall G_law_asked (hr.mono (by decide)) T.D_law_asked (pa_cons pe_int (pa_cons (pe_tup pa_nil) (pa_cons (pcall G_law_take (hr.mono (by decide)) T.D_law_take (pa_cons (pv 2) (pa_cons pe_int pa_nil))) (pa_cons (pv 3) pa_nil))))) (pa_cons (pe_lst (pa_cons pe_str (pa_cons pe_bl pa_nil))) pa_nil))))) (pss_one (ps_ret pe_bl)) pss_nil)))))))
    (pss_one (ps_ret pe_bl))), fun W x hC => ?_⟩
  refine tys_seqE (W' := W) (Γ' := [some (scrT K x), none, none, none, none, none, none]) ?_ (TyS.never (tys_retW ty_bl))
  have hi : TyI W [some (scrT K x), none, none, none, none, none, none] (iRng1 (tCons (tCB rMax2 (tCons (tC (.int 2)) (tCons (tCB rMin2 (tCons (tC (.int 4)) (tCons (tCB (Ew.rLen K) (tCons (tVar 0) tNil)) tNil))) tNil))) tNil)) ((List.range (if (if ((x.length : Nat) : Int) < 4 then ((x.length : Nat) : Int) else 4) > 2 then (if ((x.length : Nat) : Int) < 4 then ((x.length : Nat) : Int) else 4) else 2 : Int).toNat).map fun i : Nat => dt K (.int (i : Nat))) := by
    refine tyi_rng1 (tya_cons (ty_cb (tya_cons ty_int (tya_cons (ty_cb (tya_cons ty_int (tya_cons (ty_cb (tya_cons (ty_var rfl) tya_nil) cbt_lenScr) tya_nil)) cbt_min2) tya_nil)) cbt_max2) tya_nil) ?_ ?_
    · split <;> (try split) <;> omega
    · split <;> (try split) <;> omega
  have hn : (if (if ((x.length : Nat) : Int) < 4 then ((x.length : Nat) : Int) else 4) > 2 then (if ((x.length : Nat) : Int) < 4 then ((x.length : Nat) : Int) else 4) else 2 : Int).toNat ≤ 4 := by
    split <;> (try split) <;> omega
  generalize (if (if ((x.length : Nat) : Int) < 4 then ((x.length : Nat) : Int) else 4) > 2 then (if ((x.length : Nat) : Int) < 4 then ((x.length : Nat) : Int) else 4) else 2 : Int).toNat = m at hi hn
  refine tys_for (Wi := fun _ (_ : Unit) => W) (Γi := fun _ (_ : Unit) => [some (scrT K x), none, none, none, none, none, none]) () hi (fun _ _ => Wd.Like.refl W) (fun σ H g => g) (fun i T' _ hT => ?_) (fun _ σ H g => g)
  obtain ⟨hl, rfl⟩ := range_map_get hT
  refine ⟨_, tyg_name 1, ?_⟩
  show TyS W [some (scrT K x), some (dt K (.int (i : Nat))), none, none, none, none, none] _ _ _ _ _
  refine TyS.imp (tys_box (Γ' := [some (scrT K x), none, none, none, none, none, none]) (T := dt K (.bool true)) (tyl_callX (As := [intT K]) (Us := bxU K) (tya_cons (ty_call (x, i) (show i ≤ 1000 by omega) (tya_cons (ty_var rfl) (tya_cons (ty_var rfl) tya_nil))) tya_nil) fun vs H hv => ?_) (fun xs H h => bxU_box h) (fun p σ H0 H e h0 g => ?_) (fun p np => ?_) (fun p σ H g => ?_) (fun p v H z => Rp.drop z)) fun σ H g => ⟨(), g⟩
  · obtain ⟨a, rfl, g, hg⟩ := tysv1 hv
    exact ⟨g, trivial, ⟨hg, True.intro⟩, fun xs H' z => boxTs_U z⟩
  · obtain ⟨u, v, s2, s3, s4, s5, s6, rfl, g1, g2⟩ := env2 g
    cases g2
    have g3 : (scrT K x).p W.M W.B u H := (scrT K x).up e g1
    exact ⟨g3, .int _, True.intro⟩
  · show TyS (W.bx p) [some (scrT K x), some (dt K (.int (i : Nat))), some bx, none, none, none, none] _ _ _ _ _
    have zero : ∀ m : Nat, 0 < m ∧ m ≤ 1000000000 → Ty (W.bx p) [some (scrT K x), some (dt K (.int (i : Nat))), some bx, none, none, none, none] (tOp (rEqA K) (tCall (sp_law_take K) [] E0 (tCons (tVar 2) (tCons (tC (.int (m : Nat))) tNil))) (tC (.int 0))) (boolsT K) := fun m h => ty_opX (α := Nat) (A := fun k => gd (k < m) (dt K (.int (k : Nat)))) (P := fun g : Bool => dt K (.bool g)) (ty_call m h (tya_cons (ty_var rfl) (tya_cons (Ty.is ty_int rfl) tya_nil))) (ty_int (n := 0)) fun k => ⟨decide ((k : Int) = 0), OpT.gdl fun _ => opt_eqI⟩
    refine tys_seqE (tys_par3 (A := boolsT K) (C := digT K 3) (P := boolsT K) (tya_cons (zero 2 ⟨by decide, by decide⟩) (tya_cons (ty_call 3 ⟨by decide, by decide⟩ (tya_cons (ty_var rfl) (tya_cons (Ty.is ty_int rfl) tya_nil))) (tya_cons (ty_andVX (ty_op (ty_var rfl) ty_int opt_eqI) (zero 8 ⟨by decide, by decide⟩)) tya_nil)))) ?_
    refine TyS.openX (n := 3) rfl fun b => TyS.openX (n := 4) rfl fun n => TyS.openG (n := 4) rfl fun hn3 => TyS.openX (n := 5) rfl fun g => ?_
    have hn2 : n ≤ 2 := by omega
    show TyS (W.bx p) [some (scrT K x), some (dt K (.int (i : Nat))), some bx, some (dt K (.bool b)), some (dt K (.int (n : Nat))), some (dt K (.bool g)), none] _ _ _ _ _
    refine tys_seqE (tys_set (ty_call (n, if g then 49 else 5) ⟨hn2, by show (if g then 49 else 5 : Nat) ≤ 49; split <;> decide⟩ (tya_cons (ty_var rfl) (tya_cons (ty_var rfl) (tya_cons ty_int (tya_cons (ty_if (φ := (· = g)) (tt_B (ty_var rfl)) (fun z => by subst z; exact ty_int) fun z => by subst z; exact ty_int) tya_nil)))))) ?_
    refine TyS.openX (n := 6) rfl fun l => TyS.openG (n := 6) rfl fun hl => ?_
    have hl : PolD n l := hl
    show TyS (W.bx p) [some (scrT K x), some (dt K (.int (i : Nat))), some bx, some (dt K (.bool b)), some (dt K (.int (n : Nat))), some (dt K (.bool g)), some (dt K (polD l))] _ _ _ _ _
    refine tys_guard (φ := (· = false)) (Tt.is (tt_orB (a := false) (b := false) (Tt.is (tt_notB (tt_B (ty_call (l, n, b) ⟨hl, hn2⟩ (tya_cons (ty_var rfl) (tya_cons (ty_var rfl) (tya_cons (ty_var rfl) (tya_cons (ty_var rfl) tya_nil))))))) rfl) fun _ => Tt.is (tt_notB (tt_B (ty_call (l, n, !b) ⟨hl, hn2⟩ (tya_cons (ty_var rfl) (tya_cons (ty_var rfl) (tya_cons (ty_var rfl) (tya_cons (ty_notV (ty_var rfl)) tya_nil))))))) rfl) rfl) (fun z => Bool.noConfusion z) fun _ => ?_
    refine TyS.imp (tys_if (φ := (· = false)) (tt_same (d := .list [.str "told", .bool true]) (smT (n := 7) trivial) (ty_askX (k := 0) (T1 := dt K (.tuple [])) (T2 := digT K 3) (ty_int (K := K)) (ty_tupD (ds := []) tya_nil (by decide)) (ty_call 3 ⟨by decide, by decide⟩ (tya_cons (ty_var rfl) (tya_cons (Ty.is ty_int rfl) tya_nil))) (ty_var rfl) fun u v H z1 ⟨k, hk, z2⟩ => ⟨.tuple [], .int (k : Nat), z1, z2, ⟨⟨by show 0 < 60; decide, fun e he => by cases he⟩, fun z => absurd rfl z⟩, fun w H' z => ?_⟩) (ty_told ty_bl)) (fun z => Bool.noConfusion z) fun _ => tys_next) fun σ H q => ⟨q.1, EnvL.less (by exact ⟨fun _ _ _ _ h => h, True.intro⟩) q.2⟩
    obtain ⟨a1, a2⟩ := ask0 (u := u) (v := v) (d := .tuple []) (b := b) (n := k) (by omega)
    rw [a1, a2, none_pol] at z
    exact z
  · obtain ⟨u, s1, s2, s3, s4, s5, s6, rfl, g1⟩ := env1 g
    exact ⟨g1, True.intro⟩
end
end
section
open PySem PySem.Spec PyProof.Rows L2 Ew
theorem exm_of {K : PySem.W.Frag} {S R : Addr} {b : Bool} (h1 : PySem.W.subIn K (.ref S) (.type "BaseException") = some true) (h1' : PySem.W.subIn K (.ref R) (.type "BaseException") = some true) (h2 : PySem.W.isClsIn K R = true) (h3 : PySem.W.typeIn K (.ref R) = some (.type "type")) (h4 : PySem.W.subIn K (.ref S) (.ref R) = some b) :
    PySem.W.exmOne K (.ref S) (.ref R) = some b := by
  have e1 : (PySem.W.subIn K (.ref R) (.type "BaseException") == some true) = true := by rw [h1'] <;> rfl
  have e2 : ((PySem.W.clsIn K R).isSome && PySem.W.typeIn K (.ref R) == some (.type "type")) = true := by
    have h2' : (PySem.W.clsIn K R).isSome = true := h2
    rw [h2', h3] <;> rfl
  show (if (PySem.W.subIn K (.ref R) (.type "BaseException") == some true) = true then (if ((PySem.W.clsIn K R).isSome && PySem.W.typeIn K (.ref R) == some (.type "type")) = true then PySem.W.subIn K (.ref S) (.ref R) else none) else none) = some b
  rw [if_pos e1, if_pos e2]
  exact h4
theorem all_mk {P : Program} {w : World} {K : PySem.W.Frag} {h : Heap} {mg : Str → Option Value} {fa : Addr} (X : K.In h) (G : h.Ns mainGlobals mg) (hfa : mg "law" = some (.ref fa))
    {f_is_whole : Addr} {oc_is_whole kV_is_whole dc_is_whole pm_is_whole cd_is_whole ct_is_whole : Value} {od_is_whole an_is_whole : Option Addr} {sl_is_whole : Array (Option Value)}
    {f_is_between : Addr} {oc_is_between kV_is_between dc_is_between pm_is_between cd_is_between ct_is_between : Value} {od_is_between an_is_between : Option Addr} {sl_is_between : Array (Option Value)}
    {f_is_line_of : Addr} {oc_is_line_of kV_is_line_of dc_is_line_of pm_is_line_of cd_is_line_of ct_is_line_of : Value} {od_is_line_of an_is_line_of : Option Addr} {sl_is_line_of : Array (Option Value)}
    {f_is_degrees : Addr} {oc_is_degrees kV_is_degrees dc_is_degrees pm_is_degrees cd_is_degrees ct_is_degrees : Value} {od_is_degrees an_is_degrees : Option Addr} {sl_is_degrees : Array (Option Value)}
    {f_is_polynomial_of : Addr} {oc_is_polynomial_of kV_is_polynomial_of dc_is_polynomial_of pm_is_polynomial_of cd_is_polynomial_of ct_is_polynomial_of : Value} {od_is_polynomial_of an_is_polynomial_of : Option Addr} {sl_is_polynomial_of : Array (Option Value)}
    {f_is_polynomial : Addr} {oc_is_polynomial kV_is_polynomial dc_is_polynomial pm_is_polynomial cd_is_polynomial ct_is_polynomial : Value} {od_is_polynomial an_is_polynomial : Option Addr} {sl_is_polynomial : Array (Option Value)}
    {f_check_items : Addr} {oc_check_items kV_check_items dc_check_items pm_check_items cd_check_items ct_check_items : Value} {od_check_items an_check_items : Option Addr} {sl_check_items : Array (Option Value)}
    {f_check_polynomial : Addr} {oc_check_polynomial kV_check_polynomial dc_check_polynomial pm_check_polynomial cd_check_polynomial ct_check_polynomial : Value} {od_check_polynomial an_check_polynomial : Option Addr} {sl_check_polynomial : Array (Option Value)}
    {f_binomial : Addr} {oc_binomial kV_binomial dc_binomial pm_binomial cd_binomial ct_binomial : Value} {od_binomial an_binomial : Option Addr} {sl_binomial : Array (Option Value)}
    {f_weight_of : Addr} {oc_weight_of kV_weight_of dc_weight_of pm_weight_of cd_weight_of ct_weight_of : Value} {od_weight_of an_weight_of : Option Addr} {sl_weight_of : Array (Option Value)}
    {f_value_in : Addr} {oc_value_in kV_value_in dc_value_in pm_value_in cd_value_in ct_value_in : Value} {od_value_in an_value_in : Option Addr} {sl_value_in : Array (Option Value)}
    {f_value_at : Addr} {oc_value_at kV_value_at dc_value_at pm_value_at cd_value_at ct_value_at : Value} {od_value_at an_value_at : Option Addr} {sl_value_at : Array (Option Value)}
    {f_law_box : Addr} {oc_law_box kV_law_box dc_law_box pm_law_box cd_law_box ct_law_box : Value} {od_law_box an_law_box : Option Addr} {sl_law_box : Array (Option Value)}
    {f_law_take : Addr} {oc_law_take kV_law_take dc_law_take pm_law_take cd_law_take ct_law_take : Value} {od_law_take an_law_take : Option Addr} {sl_law_take : Array (Option Value)}
    {f_law_cell : Addr} {oc_law_cell kV_law_cell dc_law_cell pm_law_cell cd_law_cell ct_law_cell : Value} {od_law_cell an_law_cell : Option Addr} {sl_law_cell : Array (Option Value)}
    {f_law_same : Addr} {oc_law_same kV_law_same dc_law_same pm_law_same cd_law_same ct_law_same : Value} {od_law_same an_law_same : Option Addr} {sl_law_same : Array (Option Value)}
    {f_law_copy : Addr} {oc_law_copy kV_law_copy dc_law_copy pm_law_copy cd_law_copy ct_law_copy : Value} {od_law_copy an_law_copy : Option Addr} {sl_law_copy : Array (Option Value)}
    {f_law_very : Addr} {oc_law_very kV_law_very dc_law_very pm_law_very cd_law_very ct_law_very : Value} {od_law_very an_law_very : Option Addr} {sl_law_very : Array (Option Value)}
    {f_law_mixed : Addr} {oc_law_mixed kV_law_mixed dc_law_mixed pm_law_mixed cd_law_mixed ct_law_mixed : Value} {od_law_mixed an_law_mixed : Option Addr} {sl_law_mixed : Array (Option Value)}
    {f_law_pick : Addr} {oc_law_pick kV_law_pick dc_law_pick pm_law_pick cd_law_pick ct_law_pick : Value} {od_law_pick an_law_pick : Option Addr} {sl_law_pick : Array (Option Value)}
    {f_law_lots : Addr} {oc_law_lots kV_law_lots dc_law_lots pm_law_lots cd_law_lots ct_law_lots : Value} {od_law_lots an_law_lots : Option Addr} {sl_law_lots : Array (Option Value)}
    {f_law_over : Addr} {oc_law_over kV_law_over dc_law_over pm_law_over cd_law_over ct_law_over : Value} {od_law_over an_law_over : Option Addr} {sl_law_over : Array (Option Value)}
    {f_law_whole : Addr} {oc_law_whole kV_law_whole dc_law_whole pm_law_whole cd_law_whole ct_law_whole : Value} {od_law_whole an_law_whole : Option Addr} {sl_law_whole : Array (Option Value)}
    {f_law_poly : Addr} {oc_law_poly kV_law_poly dc_law_poly pm_law_poly cd_law_poly ct_law_poly : Value} {od_law_poly an_law_poly : Option Addr} {sl_law_poly : Array (Option Value)}
    {f_law_value : Addr} {oc_law_value kV_law_value dc_law_value pm_law_value cd_law_value ct_law_value : Value} {od_law_value an_law_value : Option Addr} {sl_law_value : Array (Option Value)}
    {f_law_is_poly : Addr} {oc_law_is_poly kV_law_is_poly dc_law_is_poly pm_law_is_poly cd_law_is_poly ct_law_is_poly : Value} {od_law_is_poly an_law_is_poly : Option Addr} {sl_law_is_poly : Array (Option Value)}
    {f_law_bent : Addr} {oc_law_bent kV_law_bent dc_law_bent pm_law_bent cd_law_bent ct_law_bent : Value} {od_law_bent an_law_bent : Option Addr} {sl_law_bent : Array (Option Value)}
    {f_law_asked : Addr} {oc_law_asked kV_law_asked dc_law_asked pm_law_asked cd_law_asked ct_law_asked : Value} {od_law_asked an_law_asked : Option Addr} {sl_law_asked : Array (Option Value)}
    {f_law_items : Addr} {oc_law_items kV_law_items dc_law_items pm_law_items cd_law_items ct_law_items : Value} {od_law_items an_law_items : Option Addr} {sl_law_items : Array (Option Value)}
    {f_law_poly_right : Addr} {oc_law_poly_right kV_law_poly_right dc_law_poly_right pm_law_poly_right cd_law_poly_right ct_law_poly_right : Value} {od_law_poly_right an_law_poly_right : Option Addr} {sl_law_poly_right : Array (Option Value)}
    {f_law_refused_right : Addr} {oc_law_refused_right kV_law_refused_right dc_law_refused_right pm_law_refused_right cd_law_refused_right ct_law_refused_right : Value} {od_law_refused_right an_law_refused_right : Option Addr} {sl_law_refused_right : Array (Option Value)}
    {f_law : Addr} {oc_law kV_law dc_law pm_law cd_law ct_law : Value} {od_law an_law : Option Addr} {sl_law : Array (Option Value)}
    {tk_MOST_ITEMS : Tok}
    {tk_MOST_DEGREE : Tok}
    {D fI Td cda cc : Addr} {nmD qD : Str} {ND : Addr} {bsD subD : List Value} {snD : List Str} {abD : Bool} {colD : Option Bool} {ddD : Option Addr} {w0 w1 w2 w3 w5 : Option Value}
    {iOc ikV idoc ipm ict : Value} {iod ian : Option Addr} {iosl : Array (Option Value)} {p1 p2 p3 q1 q2 q3 q4 q5 q6 q7 q8 q9 q10 : Pos} {ccl cl tc : Value} {cdd cld td : Option Addr} {vs : Array Value} {ccs csl tsl : Array (Option Value)} {file : Str} {tf : Tok} {nT : Nat}
    {C_InvalidCount : Addr} {nm_InvalidCount q_InvalidCount : Str} {N_InvalidCount : Addr} {bs_InvalidCount su_InvalidCount : List Value} {sn_InvalidCount : List Str} {ab_InvalidCount : Bool} {col_InvalidCount : Option Bool} {dd_InvalidCount : Option Addr} {u0_InvalidCount u1_InvalidCount u2_InvalidCount u3_InvalidCount u5_InvalidCount : Option Value}
    {C_InvalidPolynomial : Addr} {nm_InvalidPolynomial q_InvalidPolynomial : Str} {N_InvalidPolynomial : Addr} {bs_InvalidPolynomial su_InvalidPolynomial : List Value} {sn_InvalidPolynomial : List Str} {ab_InvalidPolynomial : Bool} {col_InvalidPolynomial : Option Bool} {dd_InvalidPolynomial : Option Addr} {u0_InvalidPolynomial u1_InvalidPolynomial u2_InvalidPolynomial u3_InvalidPolynomial u5_InvalidPolynomial : Option Value}
    {C_InvalidItems : Addr} {nm_InvalidItems q_InvalidItems : Str} {N_InvalidItems : Addr} {bs_InvalidItems su_InvalidItems : List Value} {sn_InvalidItems : List Str} {ab_InvalidItems : Bool} {col_InvalidItems : Option Bool} {dd_InvalidItems : Option Addr} {u0_InvalidItems u1_InvalidItems u2_InvalidItems u3_InvalidItems u5_InvalidItems : Option Value}
    (a_is_whole : PySem.W.nsIn K mainGlobals "is_whole" = some (some (.ref f_is_whole)))
    (l_is_whole : K.lookup f_is_whole = some ⟨oc_is_whole, od_is_whole, .func (PySem.W.fnOf "is_whole" "is_whole" (defArgs s_is_whole) (defBody s_is_whole) (defScope s_is_whole) .none kV_is_whole dc_is_whole pm_is_whole an_is_whole cd_is_whole ct_is_whole), sl_is_whole⟩)
    (c_is_whole : PySem.W.codeIn K cd_is_whole "is_whole" = true)
    (k_is_whole : PySem.W.keepIn K (.ref f_is_whole) = true)
    (a_is_between : PySem.W.nsIn K mainGlobals "is_between" = some (some (.ref f_is_between)))
    (l_is_between : K.lookup f_is_between = some ⟨oc_is_between, od_is_between, .func (PySem.W.fnOf "is_between" "is_between" (defArgs s_is_between) (defBody s_is_between) (defScope s_is_between) .none kV_is_between dc_is_between pm_is_between an_is_between cd_is_between ct_is_between), sl_is_between⟩)
    (c_is_between : PySem.W.codeIn K cd_is_between "is_between" = true)
    (k_is_between : PySem.W.keepIn K (.ref f_is_between) = true)
    (a_is_line_of : PySem.W.nsIn K mainGlobals "is_line_of" = some (some (.ref f_is_line_of)))
    (l_is_line_of : K.lookup f_is_line_of = some ⟨oc_is_line_of, od_is_line_of, .func (PySem.W.fnOf "is_line_of" "is_line_of" (defArgs s_is_line_of) (defBody s_is_line_of) (defScope s_is_line_of) .none kV_is_line_of dc_is_line_of pm_is_line_of an_is_line_of cd_is_line_of ct_is_line_of), sl_is_line_of⟩)
    (c_is_line_of : PySem.W.codeIn K cd_is_line_of "is_line_of" = true)
    (k_is_line_of : PySem.W.keepIn K (.ref f_is_line_of) = true)
    (a_is_degrees : PySem.W.nsIn K mainGlobals "is_degrees" = some (some (.ref f_is_degrees)))
    (l_is_degrees : K.lookup f_is_degrees = some ⟨oc_is_degrees, od_is_degrees, .func (PySem.W.fnOf "is_degrees" "is_degrees" (defArgs s_is_degrees) (defBody s_is_degrees) (defScope s_is_degrees) .none kV_is_degrees dc_is_degrees pm_is_degrees an_is_degrees cd_is_degrees ct_is_degrees), sl_is_degrees⟩)
    (c_is_degrees : PySem.W.codeIn K cd_is_degrees "is_degrees" = true)
    (k_is_degrees : PySem.W.keepIn K (.ref f_is_degrees) = true)
    (a_is_polynomial_of : PySem.W.nsIn K mainGlobals "is_polynomial_of" = some (some (.ref f_is_polynomial_of)))
    (l_is_polynomial_of : K.lookup f_is_polynomial_of = some ⟨oc_is_polynomial_of, od_is_polynomial_of, .func (PySem.W.fnOf "is_polynomial_of" "is_polynomial_of" (defArgs s_is_polynomial_of) (defBody s_is_polynomial_of) (defScope s_is_polynomial_of) .none kV_is_polynomial_of dc_is_polynomial_of pm_is_polynomial_of an_is_polynomial_of cd_is_polynomial_of ct_is_polynomial_of), sl_is_polynomial_of⟩)
    (c_is_polynomial_of : PySem.W.codeIn K cd_is_polynomial_of "is_polynomial_of" = true)
    (k_is_polynomial_of : PySem.W.keepIn K (.ref f_is_polynomial_of) = true)
    (a_is_polynomial : PySem.W.nsIn K mainGlobals "is_polynomial" = some (some (.ref f_is_polynomial)))
    (l_is_polynomial : K.lookup f_is_polynomial = some ⟨oc_is_polynomial, od_is_polynomial, .func (PySem.W.fnOf "is_polynomial" "is_polynomial" (defArgs s_is_polynomial) (defBody s_is_polynomial) (defScope s_is_polynomial) .none kV_is_polynomial dc_is_polynomial pm_is_polynomial an_is_polynomial cd_is_polynomial ct_is_polynomial), sl_is_polynomial⟩)
    (c_is_polynomial : PySem.W.codeIn K cd_is_polynomial "is_polynomial" = true)
    (k_is_polynomial : PySem.W.keepIn K (.ref f_is_polynomial) = true)
    (a_check_items : PySem.W.nsIn K mainGlobals "check_items" = some (some (.ref f_check_items)))
    (l_check_items : K.lookup f_check_items = some ⟨oc_check_items, od_check_items, .func (PySem.W.fnOf "check_items" "check_items" (defArgs s_check_items) (defBody s_check_items) (defScope s_check_items) .none kV_check_items dc_check_items pm_check_items an_check_items cd_check_items ct_check_items), sl_check_items⟩)
    (c_check_items : PySem.W.codeIn K cd_check_items "check_items" = true)
    (k_check_items : PySem.W.keepIn K (.ref f_check_items) = true)
    (a_check_polynomial : PySem.W.nsIn K mainGlobals "check_polynomial" = some (some (.ref f_check_polynomial)))
    (l_check_polynomial : K.lookup f_check_polynomial = some ⟨oc_check_polynomial, od_check_polynomial, .func (PySem.W.fnOf "check_polynomial" "check_polynomial" (defArgs s_check_polynomial) (defBody s_check_polynomial) (defScope s_check_polynomial) .none kV_check_polynomial dc_check_polynomial pm_check_polynomial an_check_polynomial cd_check_polynomial ct_check_polynomial), sl_check_polynomial⟩)
    (c_check_polynomial : PySem.W.codeIn K cd_check_polynomial "check_polynomial" = true)
    (k_check_polynomial : PySem.W.keepIn K (.ref f_check_polynomial) = true)
    (a_binomial : PySem.W.nsIn K mainGlobals "binomial" = some (some (.ref f_binomial)))
    (l_binomial : K.lookup f_binomial = some ⟨oc_binomial, od_binomial, .func (PySem.W.fnOf "binomial" "binomial" (defArgs s_binomial) (defBody s_binomial) (defScope s_binomial) .none kV_binomial dc_binomial pm_binomial an_binomial cd_binomial ct_binomial), sl_binomial⟩)
    (c_binomial : PySem.W.codeIn K cd_binomial "binomial" = true)
    (k_binomial : PySem.W.keepIn K (.ref f_binomial) = true)
    (a_weight_of : PySem.W.nsIn K mainGlobals "weight_of" = some (some (.ref f_weight_of)))
    (l_weight_of : K.lookup f_weight_of = some ⟨oc_weight_of, od_weight_of, .func (PySem.W.fnOf "weight_of" "weight_of" (defArgs s_weight_of) (defBody s_weight_of) (defScope s_weight_of) .none kV_weight_of dc_weight_of pm_weight_of an_weight_of cd_weight_of ct_weight_of), sl_weight_of⟩)
    (c_weight_of : PySem.W.codeIn K cd_weight_of "weight_of" = true)
    (k_weight_of : PySem.W.keepIn K (.ref f_weight_of) = true)
    (a_value_in : PySem.W.nsIn K mainGlobals "value_in" = some (some (.ref f_value_in)))
    (l_value_in : K.lookup f_value_in = some ⟨oc_value_in, od_value_in, .func (PySem.W.fnOf "value_in" "value_in" (defArgs s_value_in) (defBody s_value_in) (defScope s_value_in) .none kV_value_in dc_value_in pm_value_in an_value_in cd_value_in ct_value_in), sl_value_in⟩)
    (c_value_in : PySem.W.codeIn K cd_value_in "value_in" = true)
    (k_value_in : PySem.W.keepIn K (.ref f_value_in) = true)
    (a_value_at : PySem.W.nsIn K mainGlobals "value_at" = some (some (.ref f_value_at)))
    (l_value_at : K.lookup f_value_at = some ⟨oc_value_at, od_value_at, .func (PySem.W.fnOf "value_at" "value_at" (defArgs s_value_at) (defBody s_value_at) (defScope s_value_at) .none kV_value_at dc_value_at pm_value_at an_value_at cd_value_at ct_value_at), sl_value_at⟩)
    (c_value_at : PySem.W.codeIn K cd_value_at "value_at" = true)
    (k_value_at : PySem.W.keepIn K (.ref f_value_at) = true)
    (a_law_box : PySem.W.nsIn K mainGlobals "_law_box" = some (some (.ref f_law_box)))
    (l_law_box : K.lookup f_law_box = some ⟨oc_law_box, od_law_box, .func (PySem.W.fnOf "_law_box" "_law_box" (defArgs s_law_box) (defBody s_law_box) (defScope s_law_box) .none kV_law_box dc_law_box pm_law_box an_law_box cd_law_box ct_law_box), sl_law_box⟩)
    (c_law_box : PySem.W.codeIn K cd_law_box "_law_box" = true)
    (k_law_box : PySem.W.keepIn K (.ref f_law_box) = true)
    (a_law_take : PySem.W.nsIn K mainGlobals "_law_take" = some (some (.ref f_law_take)))
    (l_law_take : K.lookup f_law_take = some ⟨oc_law_take, od_law_take, .func (PySem.W.fnOf "_law_take" "_law_take" (defArgs s_law_take) (defBody s_law_take) (defScope s_law_take) .none kV_law_take dc_law_take pm_law_take an_law_take cd_law_take ct_law_take), sl_law_take⟩)
    (c_law_take : PySem.W.codeIn K cd_law_take "_law_take" = true)
    (k_law_take : PySem.W.keepIn K (.ref f_law_take) = true)
    (a_law_cell : PySem.W.nsIn K mainGlobals "_law_cell" = some (some (.ref f_law_cell)))
    (l_law_cell : K.lookup f_law_cell = some ⟨oc_law_cell, od_law_cell, .func (PySem.W.fnOf "_law_cell" "_law_cell" (defArgs s_law_cell) (defBody s_law_cell) (defScope s_law_cell) .none kV_law_cell dc_law_cell pm_law_cell an_law_cell cd_law_cell ct_law_cell), sl_law_cell⟩)
    (c_law_cell : PySem.W.codeIn K cd_law_cell "_law_cell" = true)
    (k_law_cell : PySem.W.keepIn K (.ref f_law_cell) = true)
    (a_law_same : PySem.W.nsIn K mainGlobals "_law_same" = some (some (.ref f_law_same)))
    (l_law_same : K.lookup f_law_same = some ⟨oc_law_same, od_law_same, .func (PySem.W.fnOf "_law_same" "_law_same" (defArgs s_law_same) (defBody s_law_same) (defScope s_law_same) .none kV_law_same dc_law_same pm_law_same an_law_same cd_law_same ct_law_same), sl_law_same⟩)
    (c_law_same : PySem.W.codeIn K cd_law_same "_law_same" = true)
    (k_law_same : PySem.W.keepIn K (.ref f_law_same) = true)
    (a_law_copy : PySem.W.nsIn K mainGlobals "_law_copy" = some (some (.ref f_law_copy)))
    (l_law_copy : K.lookup f_law_copy = some ⟨oc_law_copy, od_law_copy, .func (PySem.W.fnOf "_law_copy" "_law_copy" (defArgs s_law_copy) (defBody s_law_copy) (defScope s_law_copy) .none kV_law_copy dc_law_copy pm_law_copy an_law_copy cd_law_copy ct_law_copy), sl_law_copy⟩)
    (c_law_copy : PySem.W.codeIn K cd_law_copy "_law_copy" = true)
    (k_law_copy : PySem.W.keepIn K (.ref f_law_copy) = true)
    (a_law_very : PySem.W.nsIn K mainGlobals "_law_very" = some (some (.ref f_law_very)))
    (l_law_very : K.lookup f_law_very = some ⟨oc_law_very, od_law_very, .func (PySem.W.fnOf "_law_very" "_law_very" (defArgs s_law_very) (defBody s_law_very) (defScope s_law_very) .none kV_law_very dc_law_very pm_law_very an_law_very cd_law_very ct_law_very), sl_law_very⟩)
    (c_law_very : PySem.W.codeIn K cd_law_very "_law_very" = true)
    (k_law_very : PySem.W.keepIn K (.ref f_law_very) = true)
    (a_law_mixed : PySem.W.nsIn K mainGlobals "_law_mixed" = some (some (.ref f_law_mixed)))
    (l_law_mixed : K.lookup f_law_mixed = some ⟨oc_law_mixed, od_law_mixed, .func (PySem.W.fnOf "_law_mixed" "_law_mixed" (defArgs s_law_mixed) (defBody s_law_mixed) (defScope s_law_mixed) .none kV_law_mixed dc_law_mixed pm_law_mixed an_law_mixed cd_law_mixed ct_law_mixed), sl_law_mixed⟩)
    (c_law_mixed : PySem.W.codeIn K cd_law_mixed "_law_mixed" = true)
    (k_law_mixed : PySem.W.keepIn K (.ref f_law_mixed) = true)
    (a_law_pick : PySem.W.nsIn K mainGlobals "_law_pick" = some (some (.ref f_law_pick)))
    (l_law_pick : K.lookup f_law_pick = some ⟨oc_law_pick, od_law_pick, .func (PySem.W.fnOf "_law_pick" "_law_pick" (defArgs s_law_pick) (defBody s_law_pick) (defScope s_law_pick) .none kV_law_pick dc_law_pick pm_law_pick an_law_pick cd_law_pick ct_law_pick), sl_law_pick⟩)
    (c_law_pick : PySem.W.codeIn K cd_law_pick "_law_pick" = true)
    (k_law_pick : PySem.W.keepIn K (.ref f_law_pick) = true)
    (a_law_lots : PySem.W.nsIn K mainGlobals "_law_lots" = some (some (.ref f_law_lots)))
    (l_law_lots : K.lookup f_law_lots = some ⟨oc_law_lots, od_law_lots, .func (PySem.W.fnOf "_law_lots" "_law_lots" (defArgs s_law_lots) (defBody s_law_lots) (defScope s_law_lots) .none kV_law_lots dc_law_lots pm_law_lots an_law_lots cd_law_lots ct_law_lots), sl_law_lots⟩)
    (c_law_lots : PySem.W.codeIn K cd_law_lots "_law_lots" = true)
    (k_law_lots : PySem.W.keepIn K (.ref f_law_lots) = true)
    (a_law_over : PySem.W.nsIn K mainGlobals "_law_over" = some (some (.ref f_law_over)))
    (l_law_over : K.lookup f_law_over = some ⟨oc_law_over, od_law_over, .func (PySem.W.fnOf "_law_over" "_law_over" (defArgs s_law_over) (defBody s_law_over) (defScope s_law_over) .none kV_law_over dc_law_over pm_law_over an_law_over cd_law_over ct_law_over), sl_law_over⟩)
    (c_law_over : PySem.W.codeIn K cd_law_over "_law_over" = true)
    (k_law_over : PySem.W.keepIn K (.ref f_law_over) = true)
    (a_law_whole : PySem.W.nsIn K mainGlobals "_law_whole" = some (some (.ref f_law_whole)))
    (l_law_whole : K.lookup f_law_whole = some ⟨oc_law_whole, od_law_whole, .func (PySem.W.fnOf "_law_whole" "_law_whole" (defArgs s_law_whole) (defBody s_law_whole) (defScope s_law_whole) .none kV_law_whole dc_law_whole pm_law_whole an_law_whole cd_law_whole ct_law_whole), sl_law_whole⟩)
    (c_law_whole : PySem.W.codeIn K cd_law_whole "_law_whole" = true)
    (k_law_whole : PySem.W.keepIn K (.ref f_law_whole) = true)
    (a_law_poly : PySem.W.nsIn K mainGlobals "_law_poly" = some (some (.ref f_law_poly)))
    (l_law_poly : K.lookup f_law_poly = some ⟨oc_law_poly, od_law_poly, .func (PySem.W.fnOf "_law_poly" "_law_poly" (defArgs s_law_poly) (defBody s_law_poly) (defScope s_law_poly) .none kV_law_poly dc_law_poly pm_law_poly an_law_poly cd_law_poly ct_law_poly), sl_law_poly⟩)
    (c_law_poly : PySem.W.codeIn K cd_law_poly "_law_poly" = true)
    (k_law_poly : PySem.W.keepIn K (.ref f_law_poly) = true)
    (a_law_value : PySem.W.nsIn K mainGlobals "_law_value" = some (some (.ref f_law_value)))
    (l_law_value : K.lookup f_law_value = some ⟨oc_law_value, od_law_value, .func (PySem.W.fnOf "_law_value" "_law_value" (defArgs s_law_value) (defBody s_law_value) (defScope s_law_value) .none kV_law_value dc_law_value pm_law_value an_law_value cd_law_value ct_law_value), sl_law_value⟩)
    (c_law_value : PySem.W.codeIn K cd_law_value "_law_value" = true)
    (k_law_value : PySem.W.keepIn K (.ref f_law_value) = true)
    (a_law_is_poly : PySem.W.nsIn K mainGlobals "_law_is_poly" = some (some (.ref f_law_is_poly)))
    (l_law_is_poly : K.lookup f_law_is_poly = some ⟨oc_law_is_poly, od_law_is_poly, .func (PySem.W.fnOf "_law_is_poly" "_law_is_poly" (defArgs s_law_is_poly) (defBody s_law_is_poly) (defScope s_law_is_poly) .none kV_law_is_poly dc_law_is_poly pm_law_is_poly an_law_is_poly cd_law_is_poly ct_law_is_poly), sl_law_is_poly⟩)
    (c_law_is_poly : PySem.W.codeIn K cd_law_is_poly "_law_is_poly" = true)
    (k_law_is_poly : PySem.W.keepIn K (.ref f_law_is_poly) = true)
    (a_law_bent : PySem.W.nsIn K mainGlobals "_law_bent" = some (some (.ref f_law_bent)))
    (l_law_bent : K.lookup f_law_bent = some ⟨oc_law_bent, od_law_bent, .func (PySem.W.fnOf "_law_bent" "_law_bent" (defArgs s_law_bent) (defBody s_law_bent) (defScope s_law_bent) .none kV_law_bent dc_law_bent pm_law_bent an_law_bent cd_law_bent ct_law_bent), sl_law_bent⟩)
    (c_law_bent : PySem.W.codeIn K cd_law_bent "_law_bent" = true)
    (k_law_bent : PySem.W.keepIn K (.ref f_law_bent) = true)
    (a_law_asked : PySem.W.nsIn K mainGlobals "_law_asked" = some (some (.ref f_law_asked)))
    (l_law_asked : K.lookup f_law_asked = some ⟨oc_law_asked, od_law_asked, .func (PySem.W.fnOf "_law_asked" "_law_asked" (defArgs s_law_asked) (defBody s_law_asked) (defScope s_law_asked) .none kV_law_asked dc_law_asked pm_law_asked an_law_asked cd_law_asked ct_law_asked), sl_law_asked⟩)
    (c_law_asked : PySem.W.codeIn K cd_law_asked "_law_asked" = true)
    (k_law_asked : PySem.W.keepIn K (.ref f_law_asked) = true)
    (a_law_items : PySem.W.nsIn K mainGlobals "_law_items" = some (some (.ref f_law_items)))
    (l_law_items : K.lookup f_law_items = some ⟨oc_law_items, od_law_items, .func (PySem.W.fnOf "_law_items" "_law_items" (defArgs s_law_items) (defBody s_law_items) (defScope s_law_items) .none kV_law_items dc_law_items pm_law_items an_law_items cd_law_items ct_law_items), sl_law_items⟩)
    (c_law_items : PySem.W.codeIn K cd_law_items "_law_items" = true)
    (k_law_items : PySem.W.keepIn K (.ref f_law_items) = true)
    (a_law_poly_right : PySem.W.nsIn K mainGlobals "_law_poly_right" = some (some (.ref f_law_poly_right)))
    (l_law_poly_right : K.lookup f_law_poly_right = some ⟨oc_law_poly_right, od_law_poly_right, .func (PySem.W.fnOf "_law_poly_right" "_law_poly_right" (defArgs s_law_poly_right) (defBody s_law_poly_right) (defScope s_law_poly_right) .none kV_law_poly_right dc_law_poly_right pm_law_poly_right an_law_poly_right cd_law_poly_right ct_law_poly_right), sl_law_poly_right⟩)
    (c_law_poly_right : PySem.W.codeIn K cd_law_poly_right "_law_poly_right" = true)
    (k_law_poly_right : PySem.W.keepIn K (.ref f_law_poly_right) = true)
    (a_law_refused_right : PySem.W.nsIn K mainGlobals "_law_refused_right" = some (some (.ref f_law_refused_right)))
    (l_law_refused_right : K.lookup f_law_refused_right = some ⟨oc_law_refused_right, od_law_refused_right, .func (PySem.W.fnOf "_law_refused_right" "_law_refused_right" (defArgs s_law_refused_right) (defBody s_law_refused_right) (defScope s_law_refused_right) .none kV_law_refused_right dc_law_refused_right pm_law_refused_right an_law_refused_right cd_law_refused_right ct_law_refused_right), sl_law_refused_right⟩)
    (c_law_refused_right : PySem.W.codeIn K cd_law_refused_right "_law_refused_right" = true)
    (k_law_refused_right : PySem.W.keepIn K (.ref f_law_refused_right) = true)
    (a_law : PySem.W.nsIn K mainGlobals "law" = some (some (.ref f_law)))
    (l_law : K.lookup f_law = some ⟨oc_law, od_law, .func (PySem.W.fnOf "law" "law" (defArgs s_law) (defBody s_law) (defScope s_law) .none kV_law dc_law pm_law an_law cd_law ct_law), sl_law⟩)
    (c_law : PySem.W.codeIn K cd_law "law" = true)
    (k_law : PySem.W.keepIn K (.ref f_law) = true)
    (z_isinstance : PySem.W.nsIn K mainGlobals "isinstance" = some none)
    (z_int : PySem.W.nsIn K mainGlobals "int" = some none)
    (z_bool : PySem.W.nsIn K mainGlobals "bool" = some none)
    (z_str : PySem.W.nsIn K mainGlobals "str" = some none)
    (z_list : PySem.W.nsIn K mainGlobals "list" = some none)
    (z_tuple : PySem.W.nsIn K mainGlobals "tuple" = some none)
    (z_dict : PySem.W.nsIn K mainGlobals "dict" = some none)
    (z_len : PySem.W.nsIn K mainGlobals "len" = some none)
    (z_all : PySem.W.nsIn K mainGlobals "all" = some none)
    (z_sum : PySem.W.nsIn K mainGlobals "sum" = some none)
    (z_zip : PySem.W.nsIn K mainGlobals "zip" = some none)
    (z_range : PySem.W.nsIn K mainGlobals "range" = some none)
    (z_abs : PySem.W.nsIn K mainGlobals "abs" = some none)
    (z_max : PySem.W.nsIn K mainGlobals "max" = some none)
    (z_min : PySem.W.nsIn K mainGlobals "min" = some none)
    (z_sorted : PySem.W.nsIn K mainGlobals "sorted" = some none)
    (z_set : PySem.W.nsIn K mainGlobals "set" = some none)
    (z_comb : PySem.W.nsIn K mainGlobals "comb" = some (some (.builtin "math.comb")))
    (g_MOST_ITEMS : PySem.W.nsIn K mainGlobals "MOST_ITEMS" = some (some (.int 2 tk_MOST_ITEMS)))
    (g_MOST_DEGREE : PySem.W.nsIn K mainGlobals "MOST_DEGREE" = some (some (.int 6 tk_MOST_DEGREE)))
    (aW : PySem.W.nsIn K mainGlobals "WrapError" = some (some (.ref D)))
    (xW : K.lookup D = some (excClassObj nmD qD D ND bsD PySem.WrX.veTail true snD subD abD colD ddD w0 w1 w2 w3 w5 "ValueError.__new__"))
    (iW : PySem.W.findIn K (.ref D) "__init__" = some (some (.ref fI)))
    (lI : K.lookup fI = some ⟨iOc, iod, .func (PySem.W.ksFn "__init__" "WrapError.__init__" (PySem.WrX.iA p1 p2 p3) (PySem.WrX.iB q1 q2 q3 q4 q5 q6 q7 q8 q9 q10) PySem.WrX.iS (.ref Td) ikV idoc ipm ian (.ref cda) ict cc), iosl⟩)
    (cI : PySem.W.codeIn K (.ref cda) "WrapError.__init__" = true)
    (lcd : K.lookup cda = some ⟨ccl, cdd, .fields vs, ccs⟩)
    (hvs : vs[2]? = some (.str file tf))
    (hfile : ((P.main.file : Str) == file) = true)
    (lcc : K.lookup cc = some ⟨cl, cld, .cell (some (.ref D)), csl⟩)
    (lT : K.lookup Td = some ⟨tc, td, .seq #[.none] nT, tsl⟩)
    (hline : (q3.endLine == q5.line) = true)
    (mS : PySem.W.nsIn K mainGlobals "super" = some none)
    (top_ : (P.main.scope.names.lookup ("super" : Str)).isSome = false)
    (any_ : PySem.W.nsIn K cStatics "thirdparty.any" = some none)
    (a_InvalidCount : PySem.W.nsIn K mainGlobals "InvalidCount" = some (some (.ref C_InvalidCount)))
    (x_InvalidCount : K.lookup C_InvalidCount = some (excClassObj nm_InvalidCount q_InvalidCount C_InvalidCount N_InvalidCount bs_InvalidCount (.ref D :: PySem.WrX.veTail) true sn_InvalidCount su_InvalidCount ab_InvalidCount col_InvalidCount dd_InvalidCount u0_InvalidCount u1_InvalidCount u2_InvalidCount u3_InvalidCount u5_InvalidCount "ValueError.__new__"))
    (sa_InvalidCount : PySem.W.findIn K (.ref C_InvalidCount) "__setattr__" = some (some (.builtin "object.__setattr__")))
    (nn_InvalidCount : PySem.W.findIn K (.ref C_InvalidCount) "given" = some none)
    (ii_InvalidCount : PySem.W.findIn K (.ref C_InvalidCount) "__init__" = some (some (.ref fI)))
    (kc_InvalidCount : PySem.W.keepIn K (.ref C_InvalidCount) = true)
    (se_InvalidCount : PySem.W.subIn K (.ref C_InvalidCount) (.type "BaseException") = some true)
    (sv_InvalidCount : PySem.W.subIn K (.ref C_InvalidCount) (.type "ValueError") = some true)
    (ty_InvalidCount : PySem.W.typeIn K (.ref C_InvalidCount) = some (.type "type"))
    (ne_InvalidCount : C_InvalidCount ≠ D)
    (ga_InvalidCount : PySem.W.findIn K (.ref C_InvalidCount) "__getattribute__" = some (some (.builtin "BaseException.__getattribute__")))
    (gg_InvalidCount : PySem.W.findIn K (.ref C_InvalidCount) "__getattr__" = some none)
    (hd_InvalidCount : PySem.W.hasDictIn K C_InvalidCount = true)
    (ic_InvalidCount : PySem.W.isClsIn K C_InvalidCount = true)
    (a_InvalidPolynomial : PySem.W.nsIn K mainGlobals "InvalidPolynomial" = some (some (.ref C_InvalidPolynomial)))
    (x_InvalidPolynomial : K.lookup C_InvalidPolynomial = some (excClassObj nm_InvalidPolynomial q_InvalidPolynomial C_InvalidPolynomial N_InvalidPolynomial bs_InvalidPolynomial (.ref D :: PySem.WrX.veTail) true sn_InvalidPolynomial su_InvalidPolynomial ab_InvalidPolynomial col_InvalidPolynomial dd_InvalidPolynomial u0_InvalidPolynomial u1_InvalidPolynomial u2_InvalidPolynomial u3_InvalidPolynomial u5_InvalidPolynomial "ValueError.__new__"))
    (sa_InvalidPolynomial : PySem.W.findIn K (.ref C_InvalidPolynomial) "__setattr__" = some (some (.builtin "object.__setattr__")))
    (nn_InvalidPolynomial : PySem.W.findIn K (.ref C_InvalidPolynomial) "given" = some none)
    (ii_InvalidPolynomial : PySem.W.findIn K (.ref C_InvalidPolynomial) "__init__" = some (some (.ref fI)))
    (kc_InvalidPolynomial : PySem.W.keepIn K (.ref C_InvalidPolynomial) = true)
    (se_InvalidPolynomial : PySem.W.subIn K (.ref C_InvalidPolynomial) (.type "BaseException") = some true)
    (sv_InvalidPolynomial : PySem.W.subIn K (.ref C_InvalidPolynomial) (.type "ValueError") = some true)
    (ty_InvalidPolynomial : PySem.W.typeIn K (.ref C_InvalidPolynomial) = some (.type "type"))
    (ne_InvalidPolynomial : C_InvalidPolynomial ≠ D)
    (ga_InvalidPolynomial : PySem.W.findIn K (.ref C_InvalidPolynomial) "__getattribute__" = some (some (.builtin "BaseException.__getattribute__")))
    (gg_InvalidPolynomial : PySem.W.findIn K (.ref C_InvalidPolynomial) "__getattr__" = some none)
    (hd_InvalidPolynomial : PySem.W.hasDictIn K C_InvalidPolynomial = true)
    (ic_InvalidPolynomial : PySem.W.isClsIn K C_InvalidPolynomial = true)
    (a_InvalidItems : PySem.W.nsIn K mainGlobals "InvalidItems" = some (some (.ref C_InvalidItems)))
    (x_InvalidItems : K.lookup C_InvalidItems = some (excClassObj nm_InvalidItems q_InvalidItems C_InvalidItems N_InvalidItems bs_InvalidItems (.ref D :: PySem.WrX.veTail) true sn_InvalidItems su_InvalidItems ab_InvalidItems col_InvalidItems dd_InvalidItems u0_InvalidItems u1_InvalidItems u2_InvalidItems u3_InvalidItems u5_InvalidItems "ValueError.__new__"))
    (sa_InvalidItems : PySem.W.findIn K (.ref C_InvalidItems) "__setattr__" = some (some (.builtin "object.__setattr__")))
    (nn_InvalidItems : PySem.W.findIn K (.ref C_InvalidItems) "given" = some none)
    (ii_InvalidItems : PySem.W.findIn K (.ref C_InvalidItems) "__init__" = some (some (.ref fI)))
    (kc_InvalidItems : PySem.W.keepIn K (.ref C_InvalidItems) = true)
    (se_InvalidItems : PySem.W.subIn K (.ref C_InvalidItems) (.type "BaseException") = some true)
    (sv_InvalidItems : PySem.W.subIn K (.ref C_InvalidItems) (.type "ValueError") = some true)
    (ty_InvalidItems : PySem.W.typeIn K (.ref C_InvalidItems) = some (.type "type"))
    (ne_InvalidItems : C_InvalidItems ≠ D)
    (ga_InvalidItems : PySem.W.findIn K (.ref C_InvalidItems) "__getattribute__" = some (some (.builtin "BaseException.__getattribute__")))
    (gg_InvalidItems : PySem.W.findIn K (.ref C_InvalidItems) "__getattr__" = some none)
    (hd_InvalidItems : PySem.W.hasDictIn K C_InvalidItems = true)
    (ic_InvalidItems : PySem.W.isClsIn K C_InvalidItems = true)
    (tI : PySem.W.typeIn K (.ref fI) = some (.type "function"))
    (s_InvalidCount_InvalidCount : PySem.W.subIn K (.ref C_InvalidCount) (.ref C_InvalidCount) = some true)
    (s_InvalidCount_InvalidPolynomial : PySem.W.subIn K (.ref C_InvalidCount) (.ref C_InvalidPolynomial) = some false)
    (s_InvalidCount_InvalidItems : PySem.W.subIn K (.ref C_InvalidCount) (.ref C_InvalidItems) = some false)
    (s_InvalidPolynomial_InvalidCount : PySem.W.subIn K (.ref C_InvalidPolynomial) (.ref C_InvalidCount) = some false)
    (s_InvalidPolynomial_InvalidPolynomial : PySem.W.subIn K (.ref C_InvalidPolynomial) (.ref C_InvalidPolynomial) = some true)
    (s_InvalidPolynomial_InvalidItems : PySem.W.subIn K (.ref C_InvalidPolynomial) (.ref C_InvalidItems) = some false)
    (s_InvalidItems_InvalidCount : PySem.W.subIn K (.ref C_InvalidItems) (.ref C_InvalidCount) = some false)
    (s_InvalidItems_InvalidPolynomial : PySem.W.subIn K (.ref C_InvalidItems) (.ref C_InvalidPolynomial) = some false)
    (s_InvalidItems_InvalidItems : PySem.W.subIn K (.ref C_InvalidItems) (.ref C_InvalidItems) = some true) :
    ∃ fd : FuncData, (∀ (s : Shared) (v : Value), BindsTo s fd ⟨[v], []⟩ [("script", v)]) ∧ ∀ base : Heap, K.In base → base.Ns mainGlobals mg → FnOk P w K mg base (L2.CX P w) 11 fa fd ["script"] (sp_law K) := by
  have e := hfa.symm.trans (PySem.W.mg_of X G a_law)
  cases e
  have F_is_whole := fun_mk (st := s_is_whole) l_is_whole c_is_whole k_is_whole
  have b_is_whole := F_is_whole.binds (ps := ["value"]) fun _ _ _ _ _ _ us hl => match us, hl with | [_], _ => rfl
  have F_is_between := fun_mk (st := s_is_between) l_is_between c_is_between k_is_between
  have b_is_between := F_is_between.binds (ps := ["value", "least", "most"]) fun _ _ _ _ _ _ us hl => match us, hl with | [_, _, _], _ => rfl
  have F_is_line_of := fun_mk (st := s_is_line_of) l_is_line_of c_is_line_of k_is_line_of
  have b_is_line_of := F_is_line_of.binds (ps := ["value", "width"]) fun _ _ _ _ _ _ us hl => match us, hl with | [_, _], _ => rfl
  have F_is_degrees := fun_mk (st := s_is_degrees) l_is_degrees c_is_degrees k_is_degrees
  have b_is_degrees := F_is_degrees.binds (ps := ["value", "items"]) fun _ _ _ _ _ _ us hl => match us, hl with | [_, _], _ => rfl
  have F_is_polynomial_of := fun_mk (st := s_is_polynomial_of) l_is_polynomial_of c_is_polynomial_of k_is_polynomial_of
  have b_is_polynomial_of := F_is_polynomial_of.binds (ps := ["value", "items"]) fun _ _ _ _ _ _ us hl => match us, hl with | [_, _], _ => rfl
  have F_is_polynomial := fun_mk (st := s_is_polynomial) l_is_polynomial c_is_polynomial k_is_polynomial
  have b_is_polynomial := F_is_polynomial.binds (ps := ["value", "items"]) fun _ _ _ _ _ _ us hl => match us, hl with | [_, _], _ => rfl
  have F_check_items := fun_mk (st := s_check_items) l_check_items c_check_items k_check_items
  have b_check_items := F_check_items.binds (ps := ["items"]) fun _ _ _ _ _ _ us hl => match us, hl with | [_], _ => rfl
  have F_check_polynomial := fun_mk (st := s_check_polynomial) l_check_polynomial c_check_polynomial k_check_polynomial
  have b_check_polynomial := F_check_polynomial.binds (ps := ["polynomial", "items"]) fun _ _ _ _ _ _ us hl => match us, hl with | [_, _], _ => rfl
  have F_binomial := fun_mk (st := s_binomial) l_binomial c_binomial k_binomial
  have b_binomial := F_binomial.binds (ps := ["number", "degree"]) fun _ _ _ _ _ _ us hl => match us, hl with | [_, _], _ => rfl
  have F_weight_of := fun_mk (st := s_weight_of) l_weight_of c_weight_of k_weight_of
  have b_weight_of := F_weight_of.binds (ps := ["degrees", "items"]) fun _ _ _ _ _ _ us hl => match us, hl with | [_, _], _ => rfl
  have F_value_in := fun_mk (st := s_value_in) l_value_in c_value_in k_value_in
  have b_value_in := F_value_in.binds (ps := ["polynomial", "items"]) fun _ _ _ _ _ _ us hl => match us, hl with | [_, _], _ => rfl
  have F_value_at := fun_mk (st := s_value_at) l_value_at c_value_at k_value_at
  have b_value_at := F_value_at.binds (ps := ["polynomial", "items"]) fun _ _ _ _ _ _ us hl => match us, hl with | [_, _], _ => rfl
  have F_law_box := fun_mk (st := s_law_box) l_law_box c_law_box k_law_box
  have b_law_box := F_law_box.binds (ps := ["great"]) fun _ _ _ _ _ _ us hl => match us, hl with | [_], _ => rfl
  have F_law_take := fun_mk (st := s_law_take) l_law_take c_law_take k_law_take
  have b_law_take := F_law_take.binds (ps := ["box", "many"]) fun _ _ _ _ _ _ us hl => match us, hl with | [_, _], _ => rfl
  have F_law_cell := fun_mk (st := s_law_cell) l_law_cell c_law_cell k_law_cell
  have b_law_cell := F_law_cell.binds (ps := ["script", "k"]) fun _ _ _ _ _ _ us hl => match us, hl with | [_, _], _ => rfl
  have F_law_same := fun_mk (st := s_law_same) l_law_same c_law_same k_law_same
  have b_law_same := F_law_same.binds (ps := ["told", "due"]) fun _ _ _ _ _ _ us hl => match us, hl with | [_, _], _ => rfl
  have F_law_copy := fun_mk (st := s_law_copy) l_law_copy c_law_copy k_law_copy
  have b_law_copy := F_law_copy.binds (ps := ["value"]) fun _ _ _ _ _ _ us hl => match us, hl with | [_], _ => rfl
  have F_law_very := fun_mk (st := s_law_very) l_law_very c_law_very k_law_very
  have b_law_very := F_law_very.binds (ps := ["given", "value"]) fun _ _ _ _ _ _ us hl => match us, hl with | [_, _], _ => rfl
  have F_law_mixed := fun_mk (st := s_law_mixed) l_law_mixed c_law_mixed k_law_mixed
  have b_law_mixed := F_law_mixed.binds (ps := ["box", "items"]) fun _ _ _ _ _ _ us hl => match us, hl with | [_, _], _ => rfl
  have F_law_pick := fun_mk (st := s_law_pick) l_law_pick c_law_pick k_law_pick
  have b_law_pick := F_law_pick.binds (ps := ["box", "items"]) fun _ _ _ _ _ _ us hl => match us, hl with | [_, _], _ => rfl
  have F_law_lots := fun_mk (st := s_law_lots) l_law_lots c_law_lots k_law_lots
  have b_law_lots := F_law_lots.binds (ps := ["lists"]) fun _ _ _ _ _ _ us hl => match us, hl with | [_], _ => rfl
  have F_law_over := fun_mk (st := s_law_over) l_law_over c_law_over k_law_over
  have b_law_over := F_law_over.binds (ps := ["number", "degree"]) fun _ _ _ _ _ _ us hl => match us, hl with | [_, _], _ => rfl
  have F_law_whole := fun_mk (st := s_law_whole) l_law_whole c_law_whole k_law_whole
  have b_law_whole := F_law_whole.binds (ps := ["box"]) fun _ _ _ _ _ _ us hl => match us, hl with | [_], _ => rfl
  have F_law_poly := fun_mk (st := s_law_poly) l_law_poly c_law_poly k_law_poly
  have b_law_poly := F_law_poly.binds (ps := ["box", "items", "most", "many"]) fun _ _ _ _ _ _ us hl => match us, hl with | [_, _, _, _], _ => rfl
  have F_law_value := fun_mk (st := s_law_value) l_law_value c_law_value k_law_value
  have b_law_value := F_law_value.binds (ps := ["polynomial", "items"]) fun _ _ _ _ _ _ us hl => match us, hl with | [_, _], _ => rfl
  have F_law_is_poly := fun_mk (st := s_law_is_poly) l_law_is_poly c_law_is_poly k_law_is_poly
  have b_law_is_poly := F_law_is_poly.binds (ps := ["value", "items"]) fun _ _ _ _ _ _ us hl => match us, hl with | [_, _], _ => rfl
  have F_law_bent := fun_mk (st := s_law_bent) l_law_bent c_law_bent k_law_bent
  have b_law_bent := F_law_bent.binds (ps := ["box", "polynomial", "items"]) fun _ _ _ _ _ _ us hl => match us, hl with | [_, _, _], _ => rfl
  have F_law_asked := fun_mk (st := s_law_asked) l_law_asked c_law_asked k_law_asked
  have b_law_asked := F_law_asked.binds (ps := ["which", "one", "two", "by_name"]) fun _ _ _ _ _ _ us hl => match us, hl with | [_, _, _, _], _ => rfl
  have F_law_items := fun_mk (st := s_law_items) l_law_items c_law_items k_law_items
  have b_law_items := F_law_items.binds (ps := ["box", "items"]) fun _ _ _ _ _ _ us hl => match us, hl with | [_, _], _ => rfl
  have F_law_poly_right := fun_mk (st := s_law_poly_right) l_law_poly_right c_law_poly_right k_law_poly_right
  have b_law_poly_right := F_law_poly_right.binds (ps := ["box", "items", "polynomial", "by_name"]) fun _ _ _ _ _ _ us hl => match us, hl with | [_, _, _, _], _ => rfl
  have F_law_refused_right := fun_mk (st := s_law_refused_right) l_law_refused_right c_law_refused_right k_law_refused_right
  have b_law_refused_right := F_law_refused_right.binds (ps := ["box", "items", "polynomial", "by_name"]) fun _ _ _ _ _ _ us hl => match us, hl with | [_, _, _, _], _ => rfl
  have F_law := fun_mk (st := s_law) l_law c_law k_law
  have b_law := F_law.binds (ps := ["script"]) fun _ _ _ _ _ _ us hl => match us, hl with | [_], _ => rfl
  have B_is_polynomial := F_is_polynomial.kbR (ps := ["value", "items"]) (ks := ["items", "value"]) fun _ _ _ _ _ _ us hl => match us, hl with | [_, _], _ => rfl
  have B_value_at := F_value_at.kbR (ps := ["polynomial", "items"]) (ks := ["items", "polynomial"]) fun _ _ _ _ _ _ us hl => match us, hl with | [_, _], _ => rfl
  let T : Tx P K mg := {
    a_is_whole := f_is_whole, f_is_whole := _, F_is_whole := F_is_whole, D_is_whole := ⟨PySem.W.mg_of X G a_is_whole, k_is_whole, b_is_whole⟩,
    a_is_between := f_is_between, f_is_between := _, F_is_between := F_is_between, D_is_between := ⟨PySem.W.mg_of X G a_is_between, k_is_between, b_is_between⟩,
    a_is_line_of := f_is_line_of, f_is_line_of := _, F_is_line_of := F_is_line_of, D_is_line_of := ⟨PySem.W.mg_of X G a_is_line_of, k_is_line_of, b_is_line_of⟩,
    a_is_degrees := f_is_degrees, f_is_degrees := _, F_is_degrees := F_is_degrees, D_is_degrees := ⟨PySem.W.mg_of X G a_is_degrees, k_is_degrees, b_is_degrees⟩,
    a_is_polynomial_of := f_is_polynomial_of, f_is_polynomial_of := _, F_is_polynomial_of := F_is_polynomial_of, D_is_polynomial_of := ⟨PySem.W.mg_of X G a_is_polynomial_of, k_is_polynomial_of, b_is_polynomial_of⟩,
    a_is_polynomial := f_is_polynomial, f_is_polynomial := _, F_is_polynomial := F_is_polynomial, D_is_polynomial := ⟨PySem.W.mg_of X G a_is_polynomial, k_is_polynomial, b_is_polynomial⟩,
    a_check_items := f_check_items, f_check_items := _, F_check_items := F_check_items, D_check_items := ⟨PySem.W.mg_of X G a_check_items, k_check_items, b_check_items⟩,
    a_check_polynomial := f_check_polynomial, f_check_polynomial := _, F_check_polynomial := F_check_polynomial, D_check_polynomial := ⟨PySem.W.mg_of X G a_check_polynomial, k_check_polynomial, b_check_polynomial⟩,
    a_binomial := f_binomial, f_binomial := _, F_binomial := F_binomial, D_binomial := ⟨PySem.W.mg_of X G a_binomial, k_binomial, b_binomial⟩,
    a_weight_of := f_weight_of, f_weight_of := _, F_weight_of := F_weight_of, D_weight_of := ⟨PySem.W.mg_of X G a_weight_of, k_weight_of, b_weight_of⟩,
    a_value_in := f_value_in, f_value_in := _, F_value_in := F_value_in, D_value_in := ⟨PySem.W.mg_of X G a_value_in, k_value_in, b_value_in⟩,
    a_value_at := f_value_at, f_value_at := _, F_value_at := F_value_at, D_value_at := ⟨PySem.W.mg_of X G a_value_at, k_value_at, b_value_at⟩,
    a_law_box := f_law_box, f_law_box := _, F_law_box := F_law_box, D_law_box := ⟨PySem.W.mg_of X G a_law_box, k_law_box, b_law_box⟩,
    a_law_take := f_law_take, f_law_take := _, F_law_take := F_law_take, D_law_take := ⟨PySem.W.mg_of X G a_law_take, k_law_take, b_law_take⟩,
    a_law_cell := f_law_cell, f_law_cell := _, F_law_cell := F_law_cell, D_law_cell := ⟨PySem.W.mg_of X G a_law_cell, k_law_cell, b_law_cell⟩,
    a_law_same := f_law_same, f_law_same := _, F_law_same := F_law_same, D_law_same := ⟨PySem.W.mg_of X G a_law_same, k_law_same, b_law_same⟩,
    a_law_copy := f_law_copy, f_law_copy := _, F_law_copy := F_law_copy, D_law_copy := ⟨PySem.W.mg_of X G a_law_copy, k_law_copy, b_law_copy⟩,
    a_law_very := f_law_very, f_law_very := _, F_law_very := F_law_very, D_law_very := ⟨PySem.W.mg_of X G a_law_very, k_law_very, b_law_very⟩,
    a_law_mixed := f_law_mixed, f_law_mixed := _, F_law_mixed := F_law_mixed, D_law_mixed := ⟨PySem.W.mg_of X G a_law_mixed, k_law_mixed, b_law_mixed⟩,
    a_law_pick := f_law_pick, f_law_pick := _, F_law_pick := F_law_pick, D_law_pick := ⟨PySem.W.mg_of X G a_law_pick, k_law_pick, b_law_pick⟩,
    a_law_lots := f_law_lots, f_law_lots := _, F_law_lots := F_law_lots, D_law_lots := ⟨PySem.W.mg_of X G a_law_lots, k_law_lots, b_law_lots⟩,
    a_law_over := f_law_over, f_law_over := _, F_law_over := F_law_over, D_law_over := ⟨PySem.W.mg_of X G a_law_over, k_law_over, b_law_over⟩,
    a_law_whole := f_law_whole, f_law_whole := _, F_law_whole := F_law_whole, D_law_whole := ⟨PySem.W.mg_of X G a_law_whole, k_law_whole, b_law_whole⟩,
    a_law_poly := f_law_poly, f_law_poly := _, F_law_poly := F_law_poly, D_law_poly := ⟨PySem.W.mg_of X G a_law_poly, k_law_poly, b_law_poly⟩,
    a_law_value := f_law_value, f_law_value := _, F_law_value := F_law_value, D_law_value := ⟨PySem.W.mg_of X G a_law_value, k_law_value, b_law_value⟩,
    a_law_is_poly := f_law_is_poly, f_law_is_poly := _, F_law_is_poly := F_law_is_poly, D_law_is_poly := ⟨PySem.W.mg_of X G a_law_is_poly, k_law_is_poly, b_law_is_poly⟩,
    a_law_bent := f_law_bent, f_law_bent := _, F_law_bent := F_law_bent, D_law_bent := ⟨PySem.W.mg_of X G a_law_bent, k_law_bent, b_law_bent⟩,
    a_law_asked := f_law_asked, f_law_asked := _, F_law_asked := F_law_asked, D_law_asked := ⟨PySem.W.mg_of X G a_law_asked, k_law_asked, b_law_asked⟩,
    a_law_items := f_law_items, f_law_items := _, F_law_items := F_law_items, D_law_items := ⟨PySem.W.mg_of X G a_law_items, k_law_items, b_law_items⟩,
    a_law_poly_right := f_law_poly_right, f_law_poly_right := _, F_law_poly_right := F_law_poly_right, D_law_poly_right := ⟨PySem.W.mg_of X G a_law_poly_right, k_law_poly_right, b_law_poly_right⟩,
    a_law_refused_right := f_law_refused_right, f_law_refused_right := _, F_law_refused_right := F_law_refused_right, D_law_refused_right := ⟨PySem.W.mg_of X G a_law_refused_right, k_law_refused_right, b_law_refused_right⟩,
    a_law := fa, f_law := _, F_law := F_law, D_law := ⟨PySem.W.mg_of X G a_law, k_law, b_law⟩,
    m_isinstance := PySem.W.mg_none_of X G z_isinstance,
    m_int := PySem.W.mg_none_of X G z_int,
    m_bool := PySem.W.mg_none_of X G z_bool,
    m_str := PySem.W.mg_none_of X G z_str,
    m_list := PySem.W.mg_none_of X G z_list,
    m_tuple := PySem.W.mg_none_of X G z_tuple,
    m_dict := PySem.W.mg_none_of X G z_dict,
    m_len := PySem.W.mg_none_of X G z_len,
    m_all := PySem.W.mg_none_of X G z_all,
    m_sum := PySem.W.mg_none_of X G z_sum,
    m_zip := PySem.W.mg_none_of X G z_zip,
    m_range := PySem.W.mg_none_of X G z_range,
    m_abs := PySem.W.mg_none_of X G z_abs,
    m_max := PySem.W.mg_none_of X G z_max,
    m_min := PySem.W.mg_none_of X G z_min,
    m_sorted := PySem.W.mg_none_of X G z_sorted,
    m_set := PySem.W.mg_none_of X G z_set,
    m_comb := PySem.W.mg_of X G z_comb,
    g_MOST_ITEMS := ⟨_, PySem.W.mg_of X G g_MOST_ITEMS⟩,
    g_MOST_DEGREE := ⟨_, PySem.W.mg_of X G g_MOST_DEGREE⟩,
    B_is_polynomial := B_is_polynomial,
    B_value_at := B_value_at,
    aW := D, fW := fI, base := ⟨⟨_, _, Td, _, _, _, _, cda, cc, _, _, _, _, _, _, _, _, _, _, _, _, _, _, _, _, _, _, _, vs, _, _, file, tf, _, _, nT, _, lI, cI, lcd, hvs, hfile, lcc, lT, hline⟩, ⟨_, by unfold PySem.W.clsIn; rw [xW] <;> rfl⟩, PySem.W.mg_none_of X G mS, top_, any_⟩,
    a_InvalidCount := C_InvalidCount, c_InvalidCount := ⟨PySem.W.mg_of X G a_InvalidCount, ⟨_, _, _, _, _, _, _, _, _, _, _, _, _, _, x_InvalidCount⟩, sa_InvalidCount, nn_InvalidCount, ii_InvalidCount, tI, kc_InvalidCount, se_InvalidCount, sv_InvalidCount, ty_InvalidCount, ne_InvalidCount⟩, x_InvalidCount := ⟨ga_InvalidCount, gg_InvalidCount, se_InvalidCount, hd_InvalidCount⟩,
    a_InvalidPolynomial := C_InvalidPolynomial, c_InvalidPolynomial := ⟨PySem.W.mg_of X G a_InvalidPolynomial, ⟨_, _, _, _, _, _, _, _, _, _, _, _, _, _, x_InvalidPolynomial⟩, sa_InvalidPolynomial, nn_InvalidPolynomial, ii_InvalidPolynomial, tI, kc_InvalidPolynomial, se_InvalidPolynomial, sv_InvalidPolynomial, ty_InvalidPolynomial, ne_InvalidPolynomial⟩, x_InvalidPolynomial := ⟨ga_InvalidPolynomial, gg_InvalidPolynomial, se_InvalidPolynomial, hd_InvalidPolynomial⟩,
    a_InvalidItems := C_InvalidItems, c_InvalidItems := ⟨PySem.W.mg_of X G a_InvalidItems, ⟨_, _, _, _, _, _, _, _, _, _, _, _, _, _, x_InvalidItems⟩, sa_InvalidItems, nn_InvalidItems, ii_InvalidItems, tI, kc_InvalidItems, se_InvalidItems, sv_InvalidItems, ty_InvalidItems, ne_InvalidItems⟩, x_InvalidItems := ⟨ga_InvalidItems, gg_InvalidItems, se_InvalidItems, hd_InvalidItems⟩,
    e_InvalidCount_InvalidCount := exm_of se_InvalidCount se_InvalidCount ic_InvalidCount ty_InvalidCount s_InvalidCount_InvalidCount,
    e_InvalidCount_InvalidPolynomial := exm_of se_InvalidCount se_InvalidPolynomial ic_InvalidPolynomial ty_InvalidPolynomial s_InvalidCount_InvalidPolynomial,
    e_InvalidCount_InvalidItems := exm_of se_InvalidCount se_InvalidItems ic_InvalidItems ty_InvalidItems s_InvalidCount_InvalidItems,
    e_InvalidPolynomial_InvalidCount := exm_of se_InvalidPolynomial se_InvalidCount ic_InvalidCount ty_InvalidCount s_InvalidPolynomial_InvalidCount,
    e_InvalidPolynomial_InvalidPolynomial := exm_of se_InvalidPolynomial se_InvalidPolynomial ic_InvalidPolynomial ty_InvalidPolynomial s_InvalidPolynomial_InvalidPolynomial,
    e_InvalidPolynomial_InvalidItems := exm_of se_InvalidPolynomial se_InvalidItems ic_InvalidItems ty_InvalidItems s_InvalidPolynomial_InvalidItems,
    e_InvalidItems_InvalidCount := exm_of se_InvalidItems se_InvalidCount ic_InvalidCount ty_InvalidCount s_InvalidItems_InvalidCount,
    e_InvalidItems_InvalidPolynomial := exm_of se_InvalidItems se_InvalidPolynomial ic_InvalidPolynomial ty_InvalidPolynomial s_InvalidItems_InvalidPolynomial,
    e_InvalidItems_InvalidItems := exm_of se_InvalidItems se_InvalidItems ic_InvalidItems ty_InvalidItems s_InvalidItems_InvalidItems }
  exact ⟨PySem.W.fnOf "law" "law" (defArgs s_law) (defBody s_law) (defScope s_law) .none kV_law dc_law pm_law an_law cd_law ct_law, fun s v => .of_eq rfl, fun base _ _ => by
    have z := ok_law (w := w) (base := base) T
    exact z⟩
theorem sp_law_ok {K : PySem.W.Frag} {H : Hp} {a : Addr} {ns : List Int} (hO : Only H) (hS : SqL K H a (ns.map V.int)) : sp_law K [.ref a] H (fun v _ => v = .bl true) fun _ _ _ => False := by
  have hF : SqF K H a (ns.map V.int) := by
    rcases hS with (h | h) | h
    · rcases hO a with z | ⟨o, xs, z⟩
      · rw [z] at h; cases h
      · rw [z] at h; cases h
    · exact .inl h
    · exact .inr h
  exact ⟨fun _ => False, fun _ => False, ns, fun _ z => z, fun _ z => z.elim, fun _ z => z.elim, trivial, ⟨⟨a, rfl, hF⟩, True.intro⟩, fun v H' _ z => by cases z; rfl⟩
set_option maxHeartbeats 0 in
theorem facts {w : World} {K : PySem.W.Frag} {h : Heap} {mg : Str → Option Value} {fa : Addr} (X : K.In h) (G : h.Ns mainGlobals mg) (hfa : mg "law" = some (.ref fa)) (c : Hd.says fs fnl K) :
    ∃ fd : FuncData, (∀ (s : Shared) (v : Value), BindsTo s fd ⟨[v], []⟩ [("script", v)]) ∧ ∀ base : Heap, K.In base → base.Ns mainGlobals mg → FnOk PySem.Challenge.rw_everywrap_k08_polynomials.prog w K mg base (L2.CX PySem.Challenge.rw_everywrap_k08_polynomials.prog w) 11 fa fd ["script"] (sp_law K) := by
  obtain ⟨oc_is_whole, od_is_whole, sl_is_whole, kV_is_whole, dc_is_whole, pm_is_whole, an_is_whole, cd_is_whole, ct_is_whole, l_is_whole, c_is_whole, k_is_whole⟩ := Hd.Df.get (Hd.dfn c (i := 0) rfl) rfl (Hd.fact c (i := 0) (j := 0) rfl rfl)
  obtain ⟨oc_is_between, od_is_between, sl_is_between, kV_is_between, dc_is_between, pm_is_between, an_is_between, cd_is_between, ct_is_between, l_is_between, c_is_between, k_is_between⟩ := Hd.Df.get (Hd.dfn c (i := 1) rfl) rfl (Hd.fact c (i := 0) (j := 1) rfl rfl)
  obtain ⟨oc_is_line_of, od_is_line_of, sl_is_line_of, kV_is_line_of, dc_is_line_of, pm_is_line_of, an_is_line_of, cd_is_line_of, ct_is_line_of, l_is_line_of, c_is_line_of, k_is_line_of⟩ := Hd.Df.get (Hd.dfn c (i := 2) rfl) rfl (Hd.fact c (i := 0) (j := 2) rfl rfl)
  obtain ⟨oc_is_degrees, od_is_degrees, sl_is_degrees, kV_is_degrees, dc_is_degrees, pm_is_degrees, an_is_degrees, cd_is_degrees, ct_is_degrees, l_is_degrees, c_is_degrees, k_is_degrees⟩ := Hd.Df.get (Hd.dfn c (i := 3) rfl) rfl (Hd.fact c (i := 0) (j := 3) rfl rfl)
  obtain ⟨oc_is_polynomial_of, od_is_polynomial_of, sl_is_polynomial_of, kV_is_polynomial_of, dc_is_polynomial_of, pm_is_polynomial_of, an_is_polynomial_of, cd_is_polynomial_of, ct_is_polynomial_of, l_is_polynomial_of, c_is_polynomial_of, k_is_polynomial_of⟩ := Hd.Df.get (Hd.dfn c (i := 4) rfl) rfl (Hd.fact c (i := 0) (j := 4) rfl rfl)
  obtain ⟨oc_is_polynomial, od_is_polynomial, sl_is_polynomial, kV_is_polynomial, dc_is_polynomial, pm_is_polynomial, an_is_polynomial, cd_is_polynomial, ct_is_polynomial, l_is_polynomial, c_is_polynomial, k_is_polynomial⟩ := Hd.Df.get (Hd.dfn c (i := 5) rfl) rfl (Hd.fact c (i := 0) (j := 5) rfl rfl)
  obtain ⟨oc_check_items, od_check_items, sl_check_items, kV_check_items, dc_check_items, pm_check_items, an_check_items, cd_check_items, ct_check_items, l_check_items, c_check_items, k_check_items⟩ := Hd.Df.get (Hd.dfn c (i := 6) rfl) rfl (Hd.fact c (i := 0) (j := 6) rfl rfl)
  obtain ⟨oc_check_polynomial, od_check_polynomial, sl_check_polynomial, kV_check_polynomial, dc_check_polynomial, pm_check_polynomial, an_check_polynomial, cd_check_polynomial, ct_check_polynomial, l_check_polynomial, c_check_polynomial, k_check_polynomial⟩ := Hd.Df.get (Hd.dfn c (i := 7) rfl) rfl (Hd.fact c (i := 0) (j := 7) rfl rfl)
  obtain ⟨oc_binomial, od_binomial, sl_binomial, kV_binomial, dc_binomial, pm_binomial, an_binomial, cd_binomial, ct_binomial, l_binomial, c_binomial, k_binomial⟩ := Hd.Df.get (Hd.dfn c (i := 8) rfl) rfl (Hd.fact c (i := 0) (j := 8) rfl rfl)
  obtain ⟨oc_weight_of, od_weight_of, sl_weight_of, kV_weight_of, dc_weight_of, pm_weight_of, an_weight_of, cd_weight_of, ct_weight_of, l_weight_of, c_weight_of, k_weight_of⟩ := Hd.Df.get (Hd.dfn c (i := 9) rfl) rfl (Hd.fact c (i := 0) (j := 9) rfl rfl)
  obtain ⟨oc_value_in, od_value_in, sl_value_in, kV_value_in, dc_value_in, pm_value_in, an_value_in, cd_value_in, ct_value_in, l_value_in, c_value_in, k_value_in⟩ := Hd.Df.get (Hd.dfn c (i := 10) rfl) rfl (Hd.fact c (i := 0) (j := 10) rfl rfl)
  obtain ⟨oc_value_at, od_value_at, sl_value_at, kV_value_at, dc_value_at, pm_value_at, an_value_at, cd_value_at, ct_value_at, l_value_at, c_value_at, k_value_at⟩ := Hd.Df.get (Hd.dfn c (i := 11) rfl) rfl (Hd.fact c (i := 0) (j := 11) rfl rfl)
  obtain ⟨oc_law_box, od_law_box, sl_law_box, kV_law_box, dc_law_box, pm_law_box, an_law_box, cd_law_box, ct_law_box, l_law_box, c_law_box, k_law_box⟩ := Hd.Df.get (Hd.dfn c (i := 12) rfl) rfl (Hd.fact c (i := 0) (j := 12) rfl rfl)
  obtain ⟨oc_law_take, od_law_take, sl_law_take, kV_law_take, dc_law_take, pm_law_take, an_law_take, cd_law_take, ct_law_take, l_law_take, c_law_take, k_law_take⟩ := Hd.Df.get (Hd.dfn c (i := 13) rfl) rfl (Hd.fact c (i := 0) (j := 13) rfl rfl)
  obtain ⟨oc_law_cell, od_law_cell, sl_law_cell, kV_law_cell, dc_law_cell, pm_law_cell, an_law_cell, cd_law_cell, ct_law_cell, l_law_cell, c_law_cell, k_law_cell⟩ := Hd.Df.get (Hd.dfn c (i := 14) rfl) rfl (Hd.fact c (i := 0) (j := 14) rfl rfl)
  obtain ⟨oc_law_same, od_law_same, sl_law_same, kV_law_same, dc_law_same, pm_law_same, an_law_same, cd_law_same, ct_law_same, l_law_same, c_law_same, k_law_same⟩ := Hd.Df.get (Hd.dfn c (i := 15) rfl) rfl (Hd.fact c (i := 0) (j := 15) rfl rfl)
  obtain ⟨oc_law_copy, od_law_copy, sl_law_copy, kV_law_copy, dc_law_copy, pm_law_copy, an_law_copy, cd_law_copy, ct_law_copy, l_law_copy, c_law_copy, k_law_copy⟩ := Hd.Df.get (Hd.dfn c (i := 16) rfl) rfl (Hd.fact c (i := 0) (j := 16) rfl rfl)
  obtain ⟨oc_law_very, od_law_very, sl_law_very, kV_law_very, dc_law_very, pm_law_very, an_law_very, cd_law_very, ct_law_very, l_law_very, c_law_very, k_law_very⟩ := Hd.Df.get (Hd.dfn c (i := 17) rfl) rfl (Hd.fact c (i := 0) (j := 17) rfl rfl)
  obtain ⟨oc_law_mixed, od_law_mixed, sl_law_mixed, kV_law_mixed, dc_law_mixed, pm_law_mixed, an_law_mixed, cd_law_mixed, ct_law_mixed, l_law_mixed, c_law_mixed, k_law_mixed⟩ := Hd.Df.get (Hd.dfn c (i := 18) rfl) rfl (Hd.fact c (i := 0) (j := 18) rfl rfl)
  obtain ⟨oc_law_pick, od_law_pick, sl_law_pick, kV_law_pick, dc_law_pick, pm_law_pick, an_law_pick, cd_law_pick, ct_law_pick, l_law_pick, c_law_pick, k_law_pick⟩ := Hd.Df.get (Hd.dfn c (i := 19) rfl) rfl (Hd.fact c (i := 0) (j := 19) rfl rfl)
  obtain ⟨oc_law_lots, od_law_lots, sl_law_lots, kV_law_lots, dc_law_lots, pm_law_lots, an_law_lots, cd_law_lots, ct_law_lots, l_law_lots, c_law_lots, k_law_lots⟩ := Hd.Df.get (Hd.dfn c (i := 20) rfl) rfl (Hd.fact c (i := 0) (j := 20) rfl rfl)
  obtain ⟨oc_law_over, od_law_over, sl_law_over, kV_law_over, dc_law_over, pm_law_over, an_law_over, cd_law_over, ct_law_over, l_law_over, c_law_over, k_law_over⟩ := Hd.Df.get (Hd.dfn c (i := 21) rfl) rfl (Hd.fact c (i := 0) (j := 21) rfl rfl)
  obtain ⟨oc_law_whole, od_law_whole, sl_law_whole, kV_law_whole, dc_law_whole, pm_law_whole, an_law_whole, cd_law_whole, ct_law_whole, l_law_whole, c_law_whole, k_law_whole⟩ := Hd.Df.get (Hd.dfn c (i := 22) rfl) rfl (Hd.fact c (i := 0) (j := 22) rfl rfl)
  obtain ⟨oc_law_poly, od_law_poly, sl_law_poly, kV_law_poly, dc_law_poly, pm_law_poly, an_law_poly, cd_law_poly, ct_law_poly, l_law_poly, c_law_poly, k_law_poly⟩ := Hd.Df.get (Hd.dfn c (i := 23) rfl) rfl (Hd.fact c (i := 0) (j := 23) rfl rfl)
  obtain ⟨oc_law_value, od_law_value, sl_law_value, kV_law_value, dc_law_value, pm_law_value, an_law_value, cd_law_value, ct_law_value, l_law_value, c_law_value, k_law_value⟩ := Hd.Df.get (Hd.dfn c (i := 24) rfl) rfl (Hd.fact c (i := 0) (j := 24) rfl rfl)
  obtain ⟨oc_law_is_poly, od_law_is_poly, sl_law_is_poly, kV_law_is_poly, dc_law_is_poly, pm_law_is_poly, an_law_is_poly, cd_law_is_poly, ct_law_is_poly, l_law_is_poly, c_law_is_poly, k_law_is_poly⟩ := Hd.Df.get (Hd.dfn c (i := 25) rfl) rfl (Hd.fact c (i := 1) (j := 0) rfl rfl)
  obtain ⟨oc_law_bent, od_law_bent, sl_law_bent, kV_law_bent, dc_law_bent, pm_law_bent, an_law_bent, cd_law_bent, ct_law_bent, l_law_bent, c_law_bent, k_law_bent⟩ := Hd.Df.get (Hd.dfn c (i := 26) rfl) rfl (Hd.fact c (i := 1) (j := 1) rfl rfl)
  obtain ⟨oc_law_asked, od_law_asked, sl_law_asked, kV_law_asked, dc_law_asked, pm_law_asked, an_law_asked, cd_law_asked, ct_law_asked, l_law_asked, c_law_asked, k_law_asked⟩ := Hd.Df.get (Hd.dfn c (i := 27) rfl) rfl (Hd.fact c (i := 1) (j := 2) rfl rfl)
  obtain ⟨oc_law_items, od_law_items, sl_law_items, kV_law_items, dc_law_items, pm_law_items, an_law_items, cd_law_items, ct_law_items, l_law_items, c_law_items, k_law_items⟩ := Hd.Df.get (Hd.dfn c (i := 28) rfl) rfl (Hd.fact c (i := 1) (j := 3) rfl rfl)
  obtain ⟨oc_law_poly_right, od_law_poly_right, sl_law_poly_right, kV_law_poly_right, dc_law_poly_right, pm_law_poly_right, an_law_poly_right, cd_law_poly_right, ct_law_poly_right, l_law_poly_right, c_law_poly_right, k_law_poly_right⟩ := Hd.Df.get (Hd.dfn c (i := 29) rfl) rfl (Hd.fact c (i := 1) (j := 4) rfl rfl)
  obtain ⟨oc_law_refused_right, od_law_refused_right, sl_law_refused_right, kV_law_refused_right, dc_law_refused_right, pm_law_refused_right, an_law_refused_right, cd_law_refused_right, ct_law_refused_right, l_law_refused_right, c_law_refused_right, k_law_refused_right⟩ := Hd.Df.get (Hd.dfn c (i := 30) rfl) rfl (Hd.fact c (i := 1) (j := 5) rfl rfl)
  obtain ⟨oc_law, od_law, sl_law, kV_law, dc_law, pm_law, an_law, cd_law, ct_law, l_law, c_law, k_law⟩ := Hd.Df.get (Hd.dfn c (i := 31) rfl) rfl (Hd.fact c (i := 1) (j := 6) rfl rfl)
  obtain ⟨tk_MOST_ITEMS, g_MOST_ITEMS⟩ := Hd.intB_ok (Hd.fact c (i := 1) (j := 7) rfl rfl)
  obtain ⟨tk_MOST_DEGREE, g_MOST_DEGREE⟩ := Hd.intB_ok (Hd.fact c (i := 1) (j := 8) rfl rfl)
  obtain ⟨nmD, qD, ND, bsD, snD, subD, abD, colD, ddD, w0, w1, w2, w3, w5, xW⟩ := Hd.excB_ok (C := fun K => He.ga K "WrapError") (bm := fun _ => Hd.veT) (Hd.fact c (i := 1) (j := 9) rfl rfl)
  obtain ⟨ZocW, ZodW, ZslW, ZdVW, ZkVW, ZdcW, ZpmW, ZanW, ZcdaW, ZccW, ZctW, ZcclW, ZclW, ZcddW, ZcldW, ZvsW, ZccsW, ZcslW, ZfW, ZtfW, ZlW, ZcoW, ZlcdW, ZhvsW, ZhfW, ZlccW, ZnW, ZyW⟩ := Hd.Df.ks_get (file := (PySem.Challenge.rw_everywrap_k08_polynomials.prog.main.file : Str)) (df := true) (C := fun K => He.ga K "WrapError") (Hd.dfn c (i := 32) rfl) rfl (Hd.fact c (i := 1) (j := 10) rfl rfl)
  obtain ⟨ZTdW, ZtcW, ZtdW, ZnTW, ZtslW, ZeW, ZlTW⟩ := ZyW rfl
  subst ZeW
  obtain ⟨nm_InvalidCount, q_InvalidCount, N_InvalidCount, bs_InvalidCount, sn_InvalidCount, su_InvalidCount, ab_InvalidCount, col_InvalidCount, dd_InvalidCount, u0_InvalidCount, u1_InvalidCount, u2_InvalidCount, u3_InvalidCount, u5_InvalidCount, x_InvalidCount⟩ := Hd.excB_ok (C := fun K => He.ga K "InvalidCount") (bm := fun K => .ref (He.ga K "WrapError") :: Hd.veT) (Hd.fact c (i := 1) (j := 11) rfl rfl)
  obtain ⟨nm_InvalidPolynomial, q_InvalidPolynomial, N_InvalidPolynomial, bs_InvalidPolynomial, sn_InvalidPolynomial, su_InvalidPolynomial, ab_InvalidPolynomial, col_InvalidPolynomial, dd_InvalidPolynomial, u0_InvalidPolynomial, u1_InvalidPolynomial, u2_InvalidPolynomial, u3_InvalidPolynomial, u5_InvalidPolynomial, x_InvalidPolynomial⟩ := Hd.excB_ok (C := fun K => He.ga K "InvalidPolynomial") (bm := fun K => .ref (He.ga K "WrapError") :: Hd.veT) (Hd.fact c (i := 1) (j := 12) rfl rfl)
  obtain ⟨nm_InvalidItems, q_InvalidItems, N_InvalidItems, bs_InvalidItems, sn_InvalidItems, su_InvalidItems, ab_InvalidItems, col_InvalidItems, dd_InvalidItems, u0_InvalidItems, u1_InvalidItems, u2_InvalidItems, u3_InvalidItems, u5_InvalidItems, x_InvalidItems⟩ := Hd.excB_ok (C := fun K => He.ga K "InvalidItems") (bm := fun K => .ref (He.ga K "WrapError") :: Hd.veT) (Hd.fact c (i := 1) (j := 13) rfl rfl)
  have a_is_whole : PySem.W.nsIn K mainGlobals "is_whole" = some (some (.ref (He.ga K "is_whole"))) := (of_decide_eq_true (Hd.fact c (i := 1) (j := 14) rfl rfl))
  have a_is_between : PySem.W.nsIn K mainGlobals "is_between" = some (some (.ref (He.ga K "is_between"))) := (of_decide_eq_true (Hd.fact c (i := 1) (j := 15) rfl rfl))
  have a_is_line_of : PySem.W.nsIn K mainGlobals "is_line_of" = some (some (.ref (He.ga K "is_line_of"))) := (of_decide_eq_true (Hd.fact c (i := 1) (j := 16) rfl rfl))
  have a_is_degrees : PySem.W.nsIn K mainGlobals "is_degrees" = some (some (.ref (He.ga K "is_degrees"))) := (of_decide_eq_true (Hd.fact c (i := 1) (j := 17) rfl rfl))
  have a_is_polynomial_of : PySem.W.nsIn K mainGlobals "is_polynomial_of" = some (some (.ref (He.ga K "is_polynomial_of"))) := (of_decide_eq_true (Hd.fact c (i := 1) (j := 18) rfl rfl))
  have a_is_polynomial : PySem.W.nsIn K mainGlobals "is_polynomial" = some (some (.ref (He.ga K "is_polynomial"))) := (of_decide_eq_true (Hd.fact c (i := 1) (j := 19) rfl rfl))
  have a_check_items : PySem.W.nsIn K mainGlobals "check_items" = some (some (.ref (He.ga K "check_items"))) := (of_decide_eq_true (Hd.fact c (i := 1) (j := 20) rfl rfl))
  have a_check_polynomial : PySem.W.nsIn K mainGlobals "check_polynomial" = some (some (.ref (He.ga K "check_polynomial"))) := (of_decide_eq_true (Hd.fact c (i := 1) (j := 21) rfl rfl))
  have a_binomial : PySem.W.nsIn K mainGlobals "binomial" = some (some (.ref (He.ga K "binomial"))) := (of_decide_eq_true (Hd.fact c (i := 1) (j := 22) rfl rfl))
  have a_weight_of : PySem.W.nsIn K mainGlobals "weight_of" = some (some (.ref (He.ga K "weight_of"))) := (of_decide_eq_true (Hd.fact c (i := 1) (j := 23) rfl rfl))
  have a_value_in : PySem.W.nsIn K mainGlobals "value_in" = some (some (.ref (He.ga K "value_in"))) := (of_decide_eq_true (Hd.fact c (i := 1) (j := 24) rfl rfl))
  have a_value_at : PySem.W.nsIn K mainGlobals "value_at" = some (some (.ref (He.ga K "value_at"))) := (of_decide_eq_true (Hd.fact c (i := 2) (j := 0) rfl rfl))
  have a_law_box : PySem.W.nsIn K mainGlobals "_law_box" = some (some (.ref (He.ga K "_law_box"))) := (of_decide_eq_true (Hd.fact c (i := 2) (j := 1) rfl rfl))
  have a_law_take : PySem.W.nsIn K mainGlobals "_law_take" = some (some (.ref (He.ga K "_law_take"))) := (of_decide_eq_true (Hd.fact c (i := 2) (j := 2) rfl rfl))
  have a_law_cell : PySem.W.nsIn K mainGlobals "_law_cell" = some (some (.ref (He.ga K "_law_cell"))) := (of_decide_eq_true (Hd.fact c (i := 2) (j := 3) rfl rfl))
  have a_law_same : PySem.W.nsIn K mainGlobals "_law_same" = some (some (.ref (He.ga K "_law_same"))) := (of_decide_eq_true (Hd.fact c (i := 2) (j := 4) rfl rfl))
  have a_law_copy : PySem.W.nsIn K mainGlobals "_law_copy" = some (some (.ref (He.ga K "_law_copy"))) := (of_decide_eq_true (Hd.fact c (i := 2) (j := 5) rfl rfl))
  have a_law_very : PySem.W.nsIn K mainGlobals "_law_very" = some (some (.ref (He.ga K "_law_very"))) := (of_decide_eq_true (Hd.fact c (i := 2) (j := 6) rfl rfl))
  have a_law_mixed : PySem.W.nsIn K mainGlobals "_law_mixed" = some (some (.ref (He.ga K "_law_mixed"))) := (of_decide_eq_true (Hd.fact c (i := 2) (j := 7) rfl rfl))
  have a_law_pick : PySem.W.nsIn K mainGlobals "_law_pick" = some (some (.ref (He.ga K "_law_pick"))) := (of_decide_eq_true (Hd.fact c (i := 2) (j := 8) rfl rfl))
  have a_law_lots : PySem.W.nsIn K mainGlobals "_law_lots" = some (some (.ref (He.ga K "_law_lots"))) := (of_decide_eq_true (Hd.fact c (i := 2) (j := 9) rfl rfl))
  have a_law_over : PySem.W.nsIn K mainGlobals "_law_over" = some (some (.ref (He.ga K "_law_over"))) := (of_decide_eq_true (Hd.fact c (i := 2) (j := 10) rfl rfl))
  have a_law_whole : PySem.W.nsIn K mainGlobals "_law_whole" = some (some (.ref (He.ga K "_law_whole"))) := (of_decide_eq_true (Hd.fact c (i := 2) (j := 11) rfl rfl))
  have a_law_poly : PySem.W.nsIn K mainGlobals "_law_poly" = some (some (.ref (He.ga K "_law_poly"))) := (of_decide_eq_true (Hd.fact c (i := 2) (j := 12) rfl rfl))
  have a_law_value : PySem.W.nsIn K mainGlobals "_law_value" = some (some (.ref (He.ga K "_law_value"))) := (of_decide_eq_true (Hd.fact c (i := 2) (j := 13) rfl rfl))
  have a_law_is_poly : PySem.W.nsIn K mainGlobals "_law_is_poly" = some (some (.ref (He.ga K "_law_is_poly"))) := (of_decide_eq_true (Hd.fact c (i := 2) (j := 14) rfl rfl))
  have a_law_bent : PySem.W.nsIn K mainGlobals "_law_bent" = some (some (.ref (He.ga K "_law_bent"))) := (of_decide_eq_true (Hd.fact c (i := 2) (j := 15) rfl rfl))
  have a_law_asked : PySem.W.nsIn K mainGlobals "_law_asked" = some (some (.ref (He.ga K "_law_asked"))) := (of_decide_eq_true (Hd.fact c (i := 2) (j := 16) rfl rfl))
  have a_law_items : PySem.W.nsIn K mainGlobals "_law_items" = some (some (.ref (He.ga K "_law_items"))) := (of_decide_eq_true (Hd.fact c (i := 2) (j := 17) rfl rfl))
  have a_law_poly_right : PySem.W.nsIn K mainGlobals "_law_poly_right" = some (some (.ref (He.ga K "_law_poly_right"))) := (of_decide_eq_true (Hd.fact c (i := 2) (j := 18) rfl rfl))
  have a_law_refused_right : PySem.W.nsIn K mainGlobals "_law_refused_right" = some (some (.ref (He.ga K "_law_refused_right"))) := (of_decide_eq_true (Hd.fact c (i := 2) (j := 19) rfl rfl))
  have a_law : PySem.W.nsIn K mainGlobals "law" = some (some (.ref (He.ga K "law"))) := (of_decide_eq_true (Hd.fact c (i := 2) (j := 20) rfl rfl))
  have z_isinstance : PySem.W.nsIn K mainGlobals "isinstance" = some none := (of_decide_eq_true (Hd.fact c (i := 2) (j := 21) rfl rfl))
  have z_int : PySem.W.nsIn K mainGlobals "int" = some none := (of_decide_eq_true (Hd.fact c (i := 2) (j := 22) rfl rfl))
  have z_bool : PySem.W.nsIn K mainGlobals "bool" = some none := (of_decide_eq_true (Hd.fact c (i := 2) (j := 23) rfl rfl))
  have z_str : PySem.W.nsIn K mainGlobals "str" = some none := (of_decide_eq_true (Hd.fact c (i := 2) (j := 24) rfl rfl))
  have z_list : PySem.W.nsIn K mainGlobals "list" = some none := (of_decide_eq_true (Hd.fact c (i := 3) (j := 0) rfl rfl))
  have z_tuple : PySem.W.nsIn K mainGlobals "tuple" = some none := (of_decide_eq_true (Hd.fact c (i := 3) (j := 1) rfl rfl))
  have z_dict : PySem.W.nsIn K mainGlobals "dict" = some none := (of_decide_eq_true (Hd.fact c (i := 3) (j := 2) rfl rfl))
  have z_len : PySem.W.nsIn K mainGlobals "len" = some none := (of_decide_eq_true (Hd.fact c (i := 3) (j := 3) rfl rfl))
  have z_all : PySem.W.nsIn K mainGlobals "all" = some none := (of_decide_eq_true (Hd.fact c (i := 3) (j := 4) rfl rfl))
  have z_sum : PySem.W.nsIn K mainGlobals "sum" = some none := (of_decide_eq_true (Hd.fact c (i := 3) (j := 5) rfl rfl))
  have z_zip : PySem.W.nsIn K mainGlobals "zip" = some none := (of_decide_eq_true (Hd.fact c (i := 3) (j := 6) rfl rfl))
  have z_range : PySem.W.nsIn K mainGlobals "range" = some none := (of_decide_eq_true (Hd.fact c (i := 3) (j := 7) rfl rfl))
  have z_abs : PySem.W.nsIn K mainGlobals "abs" = some none := (of_decide_eq_true (Hd.fact c (i := 3) (j := 8) rfl rfl))
  have z_max : PySem.W.nsIn K mainGlobals "max" = some none := (of_decide_eq_true (Hd.fact c (i := 3) (j := 9) rfl rfl))
  have z_min : PySem.W.nsIn K mainGlobals "min" = some none := (of_decide_eq_true (Hd.fact c (i := 3) (j := 10) rfl rfl))
  have z_sorted : PySem.W.nsIn K mainGlobals "sorted" = some none := (of_decide_eq_true (Hd.fact c (i := 3) (j := 11) rfl rfl))
  have z_set : PySem.W.nsIn K mainGlobals "set" = some none := (of_decide_eq_true (Hd.fact c (i := 3) (j := 12) rfl rfl))
  have z_comb : PySem.W.nsIn K mainGlobals "comb" = some (some (.builtin "math.comb")) := (of_decide_eq_true (Hd.fact c (i := 3) (j := 13) rfl rfl))
  have aW : PySem.W.nsIn K mainGlobals "WrapError" = some (some (.ref (He.ga K "WrapError"))) := (of_decide_eq_true (Hd.fact c (i := 3) (j := 14) rfl rfl))
  have iW : PySem.W.findIn K (.ref (He.ga K "WrapError")) "__init__" = some (some (.ref (He.ma K (He.ga K "WrapError") "__init__"))) := (of_decide_eq_true (Hd.fact c (i := 3) (j := 15) rfl rfl))
  have mS : PySem.W.nsIn K mainGlobals "super" = some none := (of_decide_eq_true (Hd.fact c (i := 3) (j := 16) rfl rfl))
  have any_ : PySem.W.nsIn K cStatics "thirdparty.any" = some none := (of_decide_eq_true (Hd.fact c (i := 3) (j := 17) rfl rfl))
  have a_InvalidCount : PySem.W.nsIn K mainGlobals "InvalidCount" = some (some (.ref (He.ga K "InvalidCount"))) := (of_decide_eq_true (Hd.fact c (i := 3) (j := 18) rfl rfl))
  have sa_InvalidCount : PySem.W.findIn K (.ref (He.ga K "InvalidCount")) "__setattr__" = some (some (.builtin "object.__setattr__")) := (of_decide_eq_true (Hd.fact c (i := 3) (j := 19) rfl rfl))
  have nn_InvalidCount : PySem.W.findIn K (.ref (He.ga K "InvalidCount")) "given" = some none := (of_decide_eq_true (Hd.fact c (i := 3) (j := 20) rfl rfl))
  have ii_InvalidCount : PySem.W.findIn K (.ref (He.ga K "InvalidCount")) "__init__" = some (some (.ref (He.ma K (He.ga K "WrapError") "__init__"))) := (of_decide_eq_true (Hd.fact c (i := 3) (j := 21) rfl rfl))
  have kc_InvalidCount : PySem.W.keepIn K (.ref (He.ga K "InvalidCount")) = true := (Hd.fact c (i := 3) (j := 22) rfl rfl)
  have se_InvalidCount : PySem.W.subIn K (.ref (He.ga K "InvalidCount")) (.type "BaseException") = some true := (of_decide_eq_true (Hd.fact c (i := 3) (j := 23) rfl rfl))
  have sv_InvalidCount : PySem.W.subIn K (.ref (He.ga K "InvalidCount")) (.type "ValueError") = some true := (of_decide_eq_true (Hd.fact c (i := 3) (j := 24) rfl rfl))
  have ty_InvalidCount : PySem.W.typeIn K (.ref (He.ga K "InvalidCount")) = some (.type "type") := (of_decide_eq_true (Hd.fact c (i := 4) (j := 0) rfl rfl))
  have ne_InvalidCount : (He.ga K "InvalidCount") ≠ (He.ga K "WrapError") := (of_decide_eq_true (Hd.fact c (i := 4) (j := 1) rfl rfl))
  have ga_InvalidCount : PySem.W.findIn K (.ref (He.ga K "InvalidCount")) "__getattribute__" = some (some (.builtin "BaseException.__getattribute__")) := (of_decide_eq_true (Hd.fact c (i := 4) (j := 2) rfl rfl))
  have gg_InvalidCount : PySem.W.findIn K (.ref (He.ga K "InvalidCount")) "__getattr__" = some none := (of_decide_eq_true (Hd.fact c (i := 4) (j := 3) rfl rfl))
  have hd_InvalidCount : PySem.W.hasDictIn K (He.ga K "InvalidCount") = true := (Hd.fact c (i := 4) (j := 4) rfl rfl)
  have ic_InvalidCount : PySem.W.isClsIn K (He.ga K "InvalidCount") = true := (Hd.fact c (i := 4) (j := 5) rfl rfl)
  have a_InvalidPolynomial : PySem.W.nsIn K mainGlobals "InvalidPolynomial" = some (some (.ref (He.ga K "InvalidPolynomial"))) := (of_decide_eq_true (Hd.fact c (i := 4) (j := 6) rfl rfl))
  have sa_InvalidPolynomial : PySem.W.findIn K (.ref (He.ga K "InvalidPolynomial")) "__setattr__" = some (some (.builtin "object.__setattr__")) := (of_decide_eq_true (Hd.fact c (i := 4) (j := 7) rfl rfl))
  have nn_InvalidPolynomial : PySem.W.findIn K (.ref (He.ga K "InvalidPolynomial")) "given" = some none := (of_decide_eq_true (Hd.fact c (i := 4) (j := 8) rfl rfl))
  have ii_InvalidPolynomial : PySem.W.findIn K (.ref (He.ga K "InvalidPolynomial")) "__init__" = some (some (.ref (He.ma K (He.ga K "WrapError") "__init__"))) := (of_decide_eq_true (Hd.fact c (i := 4) (j := 9) rfl rfl))
  have kc_InvalidPolynomial : PySem.W.keepIn K (.ref (He.ga K "InvalidPolynomial")) = true := (Hd.fact c (i := 4) (j := 10) rfl rfl)
  have se_InvalidPolynomial : PySem.W.subIn K (.ref (He.ga K "InvalidPolynomial")) (.type "BaseException") = some true := (of_decide_eq_true (Hd.fact c (i := 4) (j := 11) rfl rfl))
  have sv_InvalidPolynomial : PySem.W.subIn K (.ref (He.ga K "InvalidPolynomial")) (.type "ValueError") = some true := (of_decide_eq_true (Hd.fact c (i := 4) (j := 12) rfl rfl))
  have ty_InvalidPolynomial : PySem.W.typeIn K (.ref (He.ga K "InvalidPolynomial")) = some (.type "type") := (of_decide_eq_true (Hd.fact c (i := 4) (j := 13) rfl rfl))
  have ne_InvalidPolynomial : (He.ga K "InvalidPolynomial") ≠ (He.ga K "WrapError") := (of_decide_eq_true (Hd.fact c (i := 4) (j := 14) rfl rfl))
  have ga_InvalidPolynomial : PySem.W.findIn K (.ref (He.ga K "InvalidPolynomial")) "__getattribute__" = some (some (.builtin "BaseException.__getattribute__")) := (of_decide_eq_true (Hd.fact c (i := 4) (j := 15) rfl rfl))
  have gg_InvalidPolynomial : PySem.W.findIn K (.ref (He.ga K "InvalidPolynomial")) "__getattr__" = some none := (of_decide_eq_true (Hd.fact c (i := 4) (j := 16) rfl rfl))
  have hd_InvalidPolynomial : PySem.W.hasDictIn K (He.ga K "InvalidPolynomial") = true := (Hd.fact c (i := 4) (j := 17) rfl rfl)
  have ic_InvalidPolynomial : PySem.W.isClsIn K (He.ga K "InvalidPolynomial") = true := (Hd.fact c (i := 4) (j := 18) rfl rfl)
  have a_InvalidItems : PySem.W.nsIn K mainGlobals "InvalidItems" = some (some (.ref (He.ga K "InvalidItems"))) := (of_decide_eq_true (Hd.fact c (i := 4) (j := 19) rfl rfl))
  have sa_InvalidItems : PySem.W.findIn K (.ref (He.ga K "InvalidItems")) "__setattr__" = some (some (.builtin "object.__setattr__")) := (of_decide_eq_true (Hd.fact c (i := 4) (j := 20) rfl rfl))
  have nn_InvalidItems : PySem.W.findIn K (.ref (He.ga K "InvalidItems")) "given" = some none := (of_decide_eq_true (Hd.fact c (i := 4) (j := 21) rfl rfl))
  have ii_InvalidItems : PySem.W.findIn K (.ref (He.ga K "InvalidItems")) "__init__" = some (some (.ref (He.ma K (He.ga K "WrapError") "__init__"))) := (of_decide_eq_true (Hd.fact c (i := 4) (j := 22) rfl rfl))
  have kc_InvalidItems : PySem.W.keepIn K (.ref (He.ga K "InvalidItems")) = true := (Hd.fact c (i := 4) (j := 23) rfl rfl)
  have se_InvalidItems : PySem.W.subIn K (.ref (He.ga K "InvalidItems")) (.type "BaseException") = some true := (of_decide_eq_true (Hd.fact c (i := 4) (j := 24) rfl rfl))
  have sv_InvalidItems : PySem.W.subIn K (.ref (He.ga K "InvalidItems")) (.type "ValueError") = some true := (of_decide_eq_true (Hd.fact c (i := 5) (j := 0) rfl rfl))
  have ty_InvalidItems : PySem.W.typeIn K (.ref (He.ga K "InvalidItems")) = some (.type "type") := (of_decide_eq_true (Hd.fact c (i := 5) (j := 1) rfl rfl))
  have ne_InvalidItems : (He.ga K "InvalidItems") ≠ (He.ga K "WrapError") := (of_decide_eq_true (Hd.fact c (i := 5) (j := 2) rfl rfl))
  have ga_InvalidItems : PySem.W.findIn K (.ref (He.ga K "InvalidItems")) "__getattribute__" = some (some (.builtin "BaseException.__getattribute__")) := (of_decide_eq_true (Hd.fact c (i := 5) (j := 3) rfl rfl))
  have gg_InvalidItems : PySem.W.findIn K (.ref (He.ga K "InvalidItems")) "__getattr__" = some none := (of_decide_eq_true (Hd.fact c (i := 5) (j := 4) rfl rfl))
  have hd_InvalidItems : PySem.W.hasDictIn K (He.ga K "InvalidItems") = true := (Hd.fact c (i := 5) (j := 5) rfl rfl)
  have ic_InvalidItems : PySem.W.isClsIn K (He.ga K "InvalidItems") = true := (Hd.fact c (i := 5) (j := 6) rfl rfl)
  have tI : PySem.W.typeIn K (.ref (He.ma K (He.ga K "WrapError") "__init__")) = some (.type "function") := (of_decide_eq_true (Hd.fact c (i := 5) (j := 7) rfl rfl))
  have s_InvalidCount_InvalidCount : PySem.W.subIn K (.ref (He.ga K "InvalidCount")) (.ref (He.ga K "InvalidCount")) = some true := (of_decide_eq_true (Hd.fact c (i := 5) (j := 8) rfl rfl))
  have s_InvalidCount_InvalidPolynomial : PySem.W.subIn K (.ref (He.ga K "InvalidCount")) (.ref (He.ga K "InvalidPolynomial")) = some false := (of_decide_eq_true (Hd.fact c (i := 5) (j := 9) rfl rfl))
  have s_InvalidCount_InvalidItems : PySem.W.subIn K (.ref (He.ga K "InvalidCount")) (.ref (He.ga K "InvalidItems")) = some false := (of_decide_eq_true (Hd.fact c (i := 5) (j := 10) rfl rfl))
  have s_InvalidPolynomial_InvalidCount : PySem.W.subIn K (.ref (He.ga K "InvalidPolynomial")) (.ref (He.ga K "InvalidCount")) = some false := (of_decide_eq_true (Hd.fact c (i := 5) (j := 11) rfl rfl))
  have s_InvalidPolynomial_InvalidPolynomial : PySem.W.subIn K (.ref (He.ga K "InvalidPolynomial")) (.ref (He.ga K "InvalidPolynomial")) = some true := (of_decide_eq_true (Hd.fact c (i := 5) (j := 12) rfl rfl))
  have s_InvalidPolynomial_InvalidItems : PySem.W.subIn K (.ref (He.ga K "InvalidPolynomial")) (.ref (He.ga K "InvalidItems")) = some false := (of_decide_eq_true (Hd.fact c (i := 5) (j := 13) rfl rfl))
  have s_InvalidItems_InvalidCount : PySem.W.subIn K (.ref (He.ga K "InvalidItems")) (.ref (He.ga K "InvalidCount")) = some false := (of_decide_eq_true (Hd.fact c (i := 5) (j := 14) rfl rfl))
  have s_InvalidItems_InvalidPolynomial : PySem.W.subIn K (.ref (He.ga K "InvalidItems")) (.ref (He.ga K "InvalidPolynomial")) = some false := (of_decide_eq_true (Hd.fact c (i := 5) (j := 15) rfl rfl))
  have s_InvalidItems_InvalidItems : PySem.W.subIn K (.ref (He.ga K "InvalidItems")) (.ref (He.ga K "InvalidItems")) = some true := (of_decide_eq_true (Hd.fact c (i := 5) (j := 16) rfl rfl))
  exact all_mk X G hfa (a_is_whole := a_is_whole) (l_is_whole := l_is_whole) (c_is_whole := c_is_whole) (k_is_whole := k_is_whole) (a_is_between := a_is_between) (l_is_between := l_is_between) (c_is_between := c_is_between) (k_is_between := k_is_between) (a_is_line_of := a_is_line_of) (l_is_line_of := l_is_line_of) (c_is_line_of := c_is_line_of) (k_is_line_of := k_is_line_of) (a_is_degrees := a_is_degrees) (l_is_degrees := l_is_degrees) (c_is_degrees := c_is_degrees) (k_is_degrees := k_is_degrees) (a_is_polynomial_of := a_is_polynomial_of) (l_is_polynomial_of := l_is_polynomial_of) (c_is_polynomial_of := c_is_polynomial_of) (k_is_polynomial_of := k_is_polynomial_of) (a_is_polynomial := a_is_polynomial) (l_is_polynomial := l_is_polynomial) (c_is_polynomial := c_is_polynomial) (k_is_polynomial := k_is_polynomial) (a_check_items := a_check_items) (l_check_items := l_check_items) (c_check_items := c_check_items) (k_check_items := k_check_items) (a_check_polynomial := a_check_polynomial) (l_check_polynomial := l_check_polynomial) (c_check_polynomial := c_check_polynomial) (k_check_polynomial := k_check_polynomial) (a_binomial := a_binomial) (l_binomial := l_binomial) (c_binomial := c_binomial) (k_binomial := k_binomial) (a_weight_of := a_weight_of) (l_weight_of := l_weight_of) (c_weight_of := c_weight_of) (k_weight_of := k_weight_of) (a_value_in := a_value_in) (l_value_in := l_value_in) (c_value_in := c_value_in) (k_value_in := k_value_in) (a_value_at := a_value_at) (l_value_at := l_value_at) (c_value_at := c_value_at) (k_value_at := k_value_at) (a_law_box := a_law_box) (l_law_box := l_law_box) (c_law_box := c_law_box) (k_law_box := k_law_box) (a_law_take := a_law_take) (l_law_take := l_law_take) (c_law_take := c_law_take) (k_law_take := k_law_take) (a_law_cell := a_law_cell) (l_law_cell := l_law_cell) (c_law_cell := c_law_cell) (k_law_cell := k_law_cell) (a_law_same := a_law_same) (l_law_same := l_law_same) (c_law_same := c_law_same) (k_law_same := k_law_same) (a_law_copy := a_law_copy) (l_law_copy := l_law_copy) (c_law_copy := c_law_copy) (k_law_copy := k_law_copy) (a_law_very := a_law_very) (l_law_very := l_law_very) (c_law_very := c_law_very) (k_law_very := k_law_very) (a_law_mixed := a_law_mixed) (l_law_mixed := l_law_mixed) (c_law_mixed := c_law_mixed) (k_law_mixed := k_law_mixed) (a_law_pick := a_law_pick) (l_law_pick := l_law_pick) (c_law_pick := c_law_pick) (k_law_pick := k_law_pick) (a_law_lots := a_law_lots) (l_law_lots := l_law_lots) (c_law_lots := c_law_lots) (k_law_lots := k_law_lots) (a_law_over := a_law_over) (l_law_over := l_law_over) (c_law_over := c_law_over) (k_law_over := k_law_over) (a_law_whole := a_law_whole) (l_law_whole := l_law_whole) (c_law_whole := c_law_whole) (k_law_whole := k_law_whole) (a_law_poly := a_law_poly) (l_law_poly := l_law_poly) (c_law_poly := c_law_poly) (k_law_poly := k_law_poly) (a_law_value := a_law_value) (l_law_value := l_law_value) (c_law_value := c_law_value) (k_law_value := k_law_value) (a_law_is_poly := a_law_is_poly) (l_law_is_poly := l_law_is_poly) (c_law_is_poly := c_law_is_poly) (k_law_is_poly := k_law_is_poly) (a_law_bent := a_law_bent) (l_law_bent := l_law_bent) (c_law_bent := c_law_bent) (k_law_bent := k_law_bent) (a_law_asked := a_law_asked) (l_law_asked := l_law_asked) (c_law_asked := c_law_asked) (k_law_asked := k_law_asked) (a_law_items := a_law_items) (l_law_items := l_law_items) (c_law_items := c_law_items) (k_law_items := k_law_items) (a_law_poly_right := a_law_poly_right) (l_law_poly_right := l_law_poly_right) (c_law_poly_right := c_law_poly_right) (k_law_poly_right := k_law_poly_right) (a_law_refused_right := a_law_refused_right) (l_law_refused_right := l_law_refused_right) (c_law_refused_right := c_law_refused_right) (k_law_refused_right := k_law_refused_right) (a_law := a_law) (l_law := l_law) (c_law := c_law) (k_law := k_law) (z_isinstance := z_isinstance) (z_int := z_int) (z_bool := z_bool) (z_str := z_str) (z_list := z_list) (z_tuple := z_tuple) (z_dict := z_dict) (z_len := z_len) (z_all := z_all) (z_sum := z_sum) (z_zip := z_zip) (z_range := z_range) (z_abs := z_abs) (z_max := z_max) (z_min := z_min) (z_sorted := z_sorted) (z_set := z_set) (z_comb := z_comb) (g_MOST_ITEMS := g_MOST_ITEMS) (g_MOST_DEGREE := g_MOST_DEGREE) (aW := aW) (xW := xW) (iW := iW) (lI := ZlW) (cI := ZcoW) (lcd := ZlcdW) (hvs := ZhvsW) (hfile := ZhfW) (lcc := ZlccW) (lT := ZlTW) (hline := rfl) (mS := mS) (top_ := by decide +kernel) (any_ := any_) (a_InvalidCount := a_InvalidCount) (x_InvalidCount := x_InvalidCount) (sa_InvalidCount := sa_InvalidCount) (nn_InvalidCount := nn_InvalidCount) (ii_InvalidCount := ii_InvalidCount) (kc_InvalidCount := kc_InvalidCount) (se_InvalidCount := se_InvalidCount) (sv_InvalidCount := sv_InvalidCount) (ty_InvalidCount := ty_InvalidCount) (ne_InvalidCount := ne_InvalidCount) (ga_InvalidCount := ga_InvalidCount) (gg_InvalidCount := gg_InvalidCount) (hd_InvalidCount := hd_InvalidCount) (ic_InvalidCount := ic_InvalidCount) (a_InvalidPolynomial := a_InvalidPolynomial) (x_InvalidPolynomial := x_InvalidPolynomial) (sa_InvalidPolynomial := sa_InvalidPolynomial) (nn_InvalidPolynomial := nn_InvalidPolynomial) (ii_InvalidPolynomial := ii_InvalidPolynomial) (kc_InvalidPolynomial := kc_InvalidPolynomial) (se_InvalidPolynomial := se_InvalidPolynomial) (sv_InvalidPolynomial := sv_InvalidPolynomial) (ty_InvalidPolynomial := ty_InvalidPolynomial) (ne_InvalidPolynomial := ne_InvalidPolynomial) (ga_InvalidPolynomial := ga_InvalidPolynomial) (gg_InvalidPolynomial := gg_InvalidPolynomial) (hd_InvalidPolynomial := hd_InvalidPolynomial) (ic_InvalidPolynomial := ic_InvalidPolynomial) (a_InvalidItems := a_InvalidItems) (x_InvalidItems := x_InvalidItems) (sa_InvalidItems := sa_InvalidItems) (nn_InvalidItems := nn_InvalidItems) (ii_InvalidItems := ii_InvalidItems) (kc_InvalidItems := kc_InvalidItems) (se_InvalidItems := se_InvalidItems) (sv_InvalidItems := sv_InvalidItems) (ty_InvalidItems := ty_InvalidItems) (ne_InvalidItems := ne_InvalidItems) (ga_InvalidItems := ga_InvalidItems) (gg_InvalidItems := gg_InvalidItems) (hd_InvalidItems := hd_InvalidItems) (ic_InvalidItems := ic_InvalidItems) (tI := tI) (s_InvalidCount_InvalidCount := s_InvalidCount_InvalidCount) (s_InvalidCount_InvalidPolynomial := s_InvalidCount_InvalidPolynomial) (s_InvalidCount_InvalidItems := s_InvalidCount_InvalidItems) (s_InvalidPolynomial_InvalidCount := s_InvalidPolynomial_InvalidCount) (s_InvalidPolynomial_InvalidPolynomial := s_InvalidPolynomial_InvalidPolynomial) (s_InvalidPolynomial_InvalidItems := s_InvalidPolynomial_InvalidItems) (s_InvalidItems_InvalidCount := s_InvalidItems_InvalidCount) (s_InvalidItems_InvalidPolynomial := s_InvalidItems_InvalidPolynomial) (s_InvalidItems_InvalidItems := s_InvalidItems_InvalidItems)
end
end Lk08
open PySem PySem.W PySem.Calls PyProof.Rows
set_option maxRecDepth 100000 in
set_option maxHeartbeats 0 in
theorem PySem.Challenge.cw_everywrap_k08_polynomials_holds : PySem.Challenge.rw_everywrap_k08_polynomials.Holds := by
  w_on; o_law
  refine HandSHeadRun.head_imp (r := OpenLaw.row PySem.Challenge.rw_everywrap_k08_polynomials) (q := Lk08.qv) (H := Hd.hook 4 Lk08.fs Lk08.fnl) (ob := Lk08.ob) (M := 4000) (loose := Lk08.names) (d := HandSHeadRun.topDef (OpenLaw.row PySem.Challenge.rw_everywrap_k08_polynomials).prog 43) (kwd := []) Lk08.ob_eq Lk08.run (by kernel_rfl) (by kernel_rfl) (by kernel_rfl) (by rfl) (by first | assumption | decide +kernel) (by decide +kernel) ⟨rfl, rfl, rfl, rfl, rfl, by decide +kernel⟩ ?hw ?hc
  case hw => w_witness2
  case hc =>
    refine Hd.walk (l := PySem.Challenge.rw_everywrap_k08_polynomials) (n := 63) (k := 11) (x := "script") (CX := fun w => L2.CX PySem.Challenge.rw_everywrap_k08_polynomials.prog w) (sp := Lk08.sp_law) rfl (by decide) (by kernel_rfl) ⟨rfl, by decide, by decide⟩ ?F (fun K H a ns hO hS => Lk08.sp_law_ok hO hS) (fun _ _ _ _ _ z => by
      obtain ⟨_, _, _, _, _, _, _, _, _, _, _, _, z⟩ := z
      exact z.elim)
    intro w mg fa h Y G hmg0
    obtain ⟨K, KX, c⟩ := Y
    have hmg : mg ("law" : PySem.Str) = some (.ref fa) := by
      rw [← show (HandSHeadRun.topDef (OpenLaw.row PySem.Challenge.rw_everywrap_k08_polynomials).prog 43).name = ("law" : PySem.Str) from by kernel_rfl]
      exact hmg0
    exact ⟨K, KX, Lk08.facts KX G hmg c⟩
