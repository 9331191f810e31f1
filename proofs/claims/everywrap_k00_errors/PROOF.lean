import PyProof.Rows.All
import Wide.All
import OpenK.AllK
import Wide.FinOn
import HandS.ForMost
import HandS.ForExc
import KE.KExcSuper
import KE.KStateDown
import HandS.Head0
import HandS.Head1
import HandS.Head2
import HandS.HeadEnd
import HandS.HeadHook1
import HandS.HeadHook2
import HandS.IsInst
import HandS.TupMul
import HandS.TupAny
import HandS.Wide
import HandS.Walk
import HandS.Style
import HandS.TryMany
import HandS.ExcInit
import HandS.NoneIn
import HandS.Zip
import KE.KFromBytes
import HandS.ExcSuper
import HandS.ExcField
import HandS.Defaults
import HandS.HeadWalk
import PyProof.EnumIter
import PyProof.EnumMake
import HandS.Zip0
import HandS.Iter
import HandS.Text
import HandS.Dict
import HandS.WordsDict
import HandS.Gcd
import HandS.Star
import HandS.More
import KE.KExcIs
import HandS.ExcValue
import HandS.ExcCtx
import HandS.HotCalls
import HandS.ExcBuiltin
import HandS.Small
import HandS.Conv
import PySem.Challenge.RW_everywrap_k00_errors
section
set_option Elab.async false
set_option linter.all false
set_option maxRecDepth 100000
set_option maxHeartbeats 1000000
/-! EwHd: the program's top by one kernel run; what it leaves, read off by questions of one's own. -/
namespace Hd
open PySem PySem.Spec PyProof.Rows L2
abbrev veT : List Value := [.type "ValueError", .type "Exception", .type "BaseException", .type "object"]
/-- what is asked of an exception class at C, its __init__ at fJ, with these fields -/
def clsB (K : PySem.W.Frag) (C fJ : Addr) (fds : List Str) : Bool :=
  (PySem.W.findIn K (.ref C) "__setattr__" == some (some (.builtin "object.__setattr__"))) && ((PySem.W.findIn K (.ref C) "given" == some none) && ((PySem.W.findIn K (.ref C) "__init__" == some (some (.ref fJ))) && ((PySem.W.typeIn K (.ref fJ) == some (.type "function")) && (PySem.W.keepIn K (.ref C) &&
  ((PySem.W.findIn K (.ref C) "__getattribute__" == some (some (.builtin "BaseException.__getattribute__"))) && ((PySem.W.findIn K (.ref C) "__getattr__" == some none) && ((PySem.W.findIn K (.ref C) "__class__" == some (some (.builtin "object.__class__"))) && fds.all fun f => PySem.W.findIn K (.ref C) f == some none)))))))
/-- the __init__ of a class statement -/
def initOf : Stmt → Stmt
  | .ClassDef _ _ _ body _ _ _ _ _ _ _ => body.getD 0 (.Pass ⟨0, 0, 0, 0⟩)
  | s => s
/-- a function as it stands: of the module (none), of a class -/
structure Df where
  at_ : Str × Option Str
  name : Str
  qual : Str
  params : Arguments
  body : List Stmt
  scope : Scope
  cl : List Str := []
abbrev Vw : Type := Option (Str × Str × Arguments × FuncBody × Scope × Addr × List Str × Addr)
def Df.obs (K : PySem.W.Frag) (d : Df) : Vw := match K.lookup (He.fAd K d.at_) with
  | some ⟨_, _, .func fd, _⟩ => some (fd.name, fd.qualname, fd.params, fd.body, fd.scope, fd.globals, fd.closure.map (·.1), fd.builtins)
  | _ => none
def Df.val (d : Df) : Vw := some (d.name, d.qual, d.params, .stmts d.body, d.scope, mainGlobals, d.cl, builtinsNs)
def isNoneB : Value → Bool
  | .none => true
  | _ => false
theorem isNoneB_ok {v : Value} (h : isNoneB v = true) : v = .none := by cases v <;> first | rfl | cases h
/-- no defaults, its code is known -/
def Df.ok (d : Df) (K : PySem.W.Frag) : Bool := match K.lookup (He.fAd K d.at_) with
  | some ⟨_, _, .func fd, _⟩ => PySem.W.codeIn K fd.code d.qual && (isNoneB fd.defaults && PySem.W.keepIn K (.ref (He.fAd K d.at_)))
  | _ => false
theorem Df.get {K : PySem.W.Frag} {d : Df} (e : d.obs K = d.val) (hc : d.cl = []) (c : d.ok K = true) :
    ∃ oc od osl kV doc pm an cdv ct, K.lookup (He.fAd K d.at_) = some ⟨oc, od, .func (PySem.W.fnOf d.name d.qual d.params d.body d.scope .none kV doc pm an cdv ct), osl⟩ ∧ PySem.W.codeIn K cdv d.qual = true ∧ PySem.W.keepIn K (.ref (He.fAd K d.at_)) = true := by
  unfold Df.obs Df.val at e
  unfold Df.ok at c
  cases q : K.lookup (He.fAd K d.at_) with
  | none => rw [q] at c; cases c
  | some o =>
    obtain ⟨oc, od, dt, osl⟩ := o
    rw [q] at c e
    cases dt with
    | func fd =>
      obtain ⟨n1, n2, n3, n4, n5, n6, n7, n8, n9, n10, n11, n12, n13, n14, n15⟩ := fd
      simp only [Option.some.injEq, Prod.mk.injEq] at e
      obtain ⟨h1, h2, h3, h4, h5, h6, h7, h8⟩ := e
      obtain ⟨c1, c2⟩ := Bool.and_eq_true_iff.mp c
      obtain ⟨c2, c3⟩ := Bool.and_eq_true_iff.mp c2
      have c2 := isNoneB_ok c2
      have h7' : n7 = [] := List.map_eq_nil_iff.mp (h7.trans hc)
      subst h1 h2 h3 h4 h5 h6 h7' h8 c2
      exact ⟨oc, od, osl, n9, n10, n11, n12, n13, n14, rfl, c1, c3⟩
    | _ => cases c
def cellB (K : PySem.W.Frag) (c b : Addr) : Bool := match K.lookup c with
  | some ⟨_, _, .cell (some (.ref a)), _⟩ => decide (a = b)
  | _ => false
theorem cellB_ok {K : PySem.W.Frag} {c b : Addr} (h : cellB K c b = true) : ∃ cl cld csl, K.lookup c = some ⟨cl, cld, .cell (some (.ref b)), csl⟩ := by
  unfold cellB at h
  split at h
  · rename_i q
    rw [of_decide_eq_true h] at q
    exact ⟨_, _, _, q⟩
  · cases h
def fileB (K : PySem.W.Frag) (c : Addr) (file : Str) : Bool := match K.lookup c with
  | some ⟨_, _, .fields vs, _⟩ => (match vs.toList with
    | _ :: _ :: .str f _ :: _ => file == f
    | _ => false)
  | _ => false
theorem fileB_ok {K : PySem.W.Frag} {c : Addr} {file : Str} (h : fileB K c file = true) : ∃ cl cdd vs sl f tf, K.lookup c = some ⟨cl, cdd, .fields vs, sl⟩ ∧ vs[2]? = some (.str f tf) ∧ (file == f) = true := by
  unfold fileB at h
  split at h
  · rename_i vs sl q
    split at h
    · rename_i f tf r e
      refine ⟨_, _, vs, _, f, tf, q, ?_, h⟩
      rw [← Array.getElem?_toList, e]
      rfl
    · cases h
  · cases h
def oneB (K : PySem.W.Frag) (T : Addr) : Bool := match K.lookup T with
  | some ⟨_, _, .seq its _, _⟩ => (match its.toList with
    | [v] => isNoneB v
    | _ => false)
  | _ => false
theorem oneB_ok {K : PySem.W.Frag} {T : Addr} (h : oneB K T = true) : ∃ tc td nT tsl, K.lookup T = some ⟨tc, td, .seq #[.none] nT, tsl⟩ := by
  unfold oneB at h
  split at h
  · rename_i its n sl q
    split at h
    · rename_i v e
      rw [isNoneB_ok h] at e
      have e2 : its = #[.none] := by
        cases its
        simp only at e
        rw [e]
      rw [e2] at q
      exact ⟨_, _, _, _, q⟩
    · cases h
  · cases h
def refB (f : Addr → Bool) : Value → Bool
  | .ref a => f a
  | _ => false
theorem refB_ok {f : Addr → Bool} {v : Value} (h : refB f v = true) : ∃ a, v = .ref a ∧ f a = true := by
  cases v with
  | ref a => exact ⟨a, rfl, h⟩
  | _ => cases h
def clB (f : Addr → Bool) : List (Str × Addr) → Bool
  | [p] => f p.2
  | _ => false
/-- with the cell of its class, its code's file told; df: its default is None -/
def Df.ks (file : Str) (df : Bool) (C : PySem.W.Frag → Addr) (d : Df) (K : PySem.W.Frag) : Bool := match K.lookup (He.fAd K d.at_) with
  | some ⟨_, _, .func fd, _⟩ => PySem.W.codeIn K fd.code d.qual && (refB (fun c => fileB K c file) fd.code && (clB (fun c => cellB K c (C K)) fd.closure && (bif df then refB (oneB K) fd.defaults else isNoneB fd.defaults)))
  | _ => false
theorem Df.ks_get {K : PySem.W.Frag} {d : Df} {file : Str} {df : Bool} {C : PySem.W.Frag → Addr} (e : d.obs K = d.val) (hc : d.cl = [("__class__" : Str)]) (c : d.ks file df C K = true) :
    ∃ (oc : Value) (od : Option Addr) (osl : Array (Option Value)) (dV kV doc pm : Value) (an : Option Addr) (cda cc : Addr) (ct ccl cl : Value) (cdd cld : Option Addr) (vs : Array Value) (ccs csl : Array (Option Value)) (f : Str) (tf : Tok),
      K.lookup (He.fAd K d.at_) = some ⟨oc, od, .func (PySem.W.ksFn d.name d.qual d.params d.body d.scope dV kV doc pm an (.ref cda) ct cc), osl⟩ ∧ PySem.W.codeIn K (.ref cda) d.qual = true ∧
      K.lookup cda = some ⟨ccl, cdd, .fields vs, ccs⟩ ∧ vs[2]? = some (.str f tf) ∧ (file == f) = true ∧ K.lookup cc = some ⟨cl, cld, .cell (some (.ref (C K))), csl⟩ ∧
      (df = false → dV = .none) ∧ (df = true → ∃ (Td : Addr) (tc : Value) (td : Option Addr) (nT : Nat) (tsl : Array (Option Value)), dV = .ref Td ∧ K.lookup Td = some ⟨tc, td, .seq #[.none] nT, tsl⟩) := by
  unfold Df.obs Df.val at e
  unfold Df.ks at c
  cases q : K.lookup (He.fAd K d.at_) with
  | none => rw [q] at c; cases c
  | some o =>
    obtain ⟨oc, od, dt, osl⟩ := o
    rw [q] at c e
    cases dt with
    | func fd =>
      obtain ⟨n1, n2, n3, n4, n5, n6, n7, n8, n9, n10, n11, n12, n13, n14, n15⟩ := fd
      simp only [Option.some.injEq, Prod.mk.injEq] at e
      obtain ⟨h1, h2, h3, h4, h5, h6, h7, h8⟩ := e
      obtain ⟨c1, c⟩ := Bool.and_eq_true_iff.mp c
      obtain ⟨c2, c⟩ := Bool.and_eq_true_iff.mp c
      obtain ⟨c3, c4⟩ := Bool.and_eq_true_iff.mp c
      have c1 : PySem.W.codeIn K n13 d.qual = true := c1
      have c2 : refB (fun c => fileB K c file) n13 = true := c2
      have c3 : clB (fun c => cellB K c (C K)) n7 = true := c3
      have c4 : (bif df then refB (oneB K) n8 else isNoneB n8) = true := c4
      obtain ⟨cda, e13, c2⟩ := refB_ok c2
      obtain ⟨ccl, cdd, vs, ccs, f, tf, l2, l3, l4⟩ := fileB_ok c2
      rw [hc] at h7
      obtain ⟨x, cc, rfl⟩ : ∃ x cc, n7 = [(x, cc)] := by
        cases n7 with
        | nil => cases h7
        | cons p r =>
          cases r with
          | nil => exact ⟨p.1, p.2, rfl⟩
          | cons _ _ => exact absurd (congrArg List.length h7) (by simp)
      have ex : x = ("__class__" : Str) := (List.cons.inj h7).1
      obtain ⟨cl, cld, csl, l5⟩ := cellB_ok (show cellB K cc (C K) = true from c3)
      subst h1 h2 h3 h4 h5 h6 h8 ex e13
      refine ⟨oc, od, osl, n8, n9, n10, n11, n12, cda, cc, n14, ccl, cl, cdd, cld, vs, ccs, csl, f, tf, rfl, c1, l2, l3, l4, l5, fun z => ?_, fun z => ?_⟩
      · rw [z] at c4
        exact isNoneB_ok c4
      · rw [z] at c4
        obtain ⟨T, e8, c5⟩ := refB_ok c4
        obtain ⟨tc, td, nT, tsl, l6⟩ := oneB_ok c5
        exact ⟨T, tc, td, nT, tsl, e8, l6⟩
    | _ => cases c
/-- an exception class over these -/
def slB (sl : Array (Option Value)) : Bool := match sl.toList with
  | [_, _, _, _, some (.builtin n), _] => n == "ValueError.__new__"
  | _ => false
theorem slB_ok {sl : Array (Option Value)} (h : slB sl = true) : ∃ u0 u1 u2 u3 u5, sl = #[u0, u1, u2, u3, some (.builtin "ValueError.__new__"), u5] := by
  unfold slB at h
  split at h
  · rename_i u0 u1 u2 u3 n u5 hs
    rw [beq_iff_eq.mp h] at hs
    exact ⟨u0, u1, u2, u3, u5, by cases sl; simp only at hs; rw [hs]⟩
  · cases h
def excB (C : PySem.W.Frag → Addr) (bm : PySem.W.Frag → List Value) (K : PySem.W.Frag) : Bool := match K.lookup (C K) with
  | some ⟨t, _, .cls cd, sl⟩ => decide (t = .type "type") && (slB sl && (decide (cd.mro = .ref (C K) :: bm K) && (!cd.hasDel && cd.hasDict)))
  | _ => false
theorem excB_ok {C : PySem.W.Frag → Addr} {bm : PySem.W.Frag → List Value} {K : PySem.W.Frag} (h : excB C bm K = true) :
    ∃ (nm q : Str) (N : Addr) (bs : List Value) (sn : List Str) (su : List Value) (ab : Bool) (col : Option Bool) (dd : Option Addr) (u0 u1 u2 u3 u5 : Option Value), K.lookup (C K) = some (excClassObj nm q (C K) N bs (bm K) true sn su ab col dd u0 u1 u2 u3 u5 "ValueError.__new__") := by
  unfold excB at h
  split at h
  · rename_i t dd cd sl ho
    obtain ⟨h1, h⟩ := Bool.and_eq_true_iff.mp h
    obtain ⟨h2, h⟩ := Bool.and_eq_true_iff.mp h
    obtain ⟨h3, h⟩ := Bool.and_eq_true_iff.mp h
    obtain ⟨h4, h5⟩ := Bool.and_eq_true_iff.mp h
    obtain ⟨u0, u1, u2, u3, u5, e⟩ := slB_ok h2
    have h1 := of_decide_eq_true h1
    have h3 := of_decide_eq_true h3
    obtain ⟨c1, c2, c3, c4, c5, c6, c7, c8, c9, c10, c11⟩ := cd
    have k4 : c11 = false := by
      have z : (!c11) = true := h4
      simpa using z
    have k5 : c6 = true := h5
    have k3 : c3 = .ref (C K) :: bm K := h3
    clear h3 h4 h5 h
    subst h1 k3 k4 k5 e
    exact ⟨c1, c5, c4, c2, c7, c8, c9, c10, dd, u0, u1, u2, u3, u5, ho⟩
  · cases h
/-- an int of the module -/
def intB (x : Str) (i : Int) (K : PySem.W.Frag) : Bool := match PySem.W.nsIn K mainGlobals x with
  | some (some (.int j _)) => decide (j = i)
  | _ => false
theorem intB_ok {x : Str} {i : Int} {K : PySem.W.Frag} (h : intB x i K = true) : ∃ tk, PySem.W.nsIn K mainGlobals x = some (some (.int i tk)) := by
  unfold intB at h
  split at h
  · rename_i q
    rw [of_decide_eq_true h] at q
    exact ⟨_, q⟩
  · cases h
/-! ### the questions -/
def adr (g : Addr → Option Obj) (n : Nat) : List Addr := He.asD g n ++ [cStatics]
abbrev Al : Type := Bool × List Vw
def obsK (fs : List (List (PySem.W.Frag → Bool))) (fn : List Df) (K : PySem.W.Frag) : Al := (fs.all fun l => l.all fun f => f K, fn.map (Df.obs K))
def says (fs : List (List (PySem.W.Frag → Bool))) (fn : List Df) (K : PySem.W.Frag) : Prop := obsK fs fn K = (true, fn.map Df.val)
def obsG (n : Nat) (fs : List (List (PySem.W.Frag → Bool))) (fn : List Df) (g : Addr → Option Obj) : Al := obsK fs fn (He.frG g (adr g n))
def hook (n : Nat) (fs : List (List (PySem.W.Frag → Bool))) (fn : List Df) : PySem.W.Hook where
  α := Al
  obs := fun s => obsG n fs fn s.heap.get?
  val := fun _ => (true, fn.map Df.val)
  says := fun _ h => ∃ K : PySem.W.Frag, K.In h ∧ says fs fn K
  of := fun _ _ e => ⟨_, He.frG_in, e⟩
  keeps := fun _ _ _ ⟨K, hK, c⟩ k => ⟨K, PySem.W.Frag.In.keeps hK k, c⟩
theorem obsG_eq {n : Nat} {fs : List (List (PySem.W.Frag → Bool))} {fn : List Df} {g : Addr → Option Obj} {s : Shared} (h : ∀ a, g a = s.heap.get? a) : obsG n fs fn g = (hook n fs fn).obs s := by rw [show g = s.heap.get? from funext h]; rfl
section
variable {fs : List (List (PySem.W.Frag → Bool))} {fn : List Df} {K : PySem.W.Frag}
theorem fact (c : says fs fn K) {i j : Nat} {l : List (PySem.W.Frag → Bool)} {f : PySem.W.Frag → Bool} (h : fs[i]? = some l) (h2 : l[j]? = some f) : f K = true :=
  List.all_eq_true.mp (List.all_eq_true.mp (show (fs.all fun l => l.all fun f => f K) = true from congrArg (fun z : Al => z.1) c) l (List.mem_of_getElem? h)) f (List.mem_of_getElem? h2)
theorem dfn (c : says fs fn K) {i : Nat} {d : Df} (h : fn[i]? = some d) : d.obs K = d.val := by
  have e : fn.map (Df.obs K) = fn.map Df.val := congrArg (fun z : Al => z.2) c
  have e2 : (fn.map (Df.obs K))[i]? = (fn.map Df.val)[i]? := by rw [e]
  rw [List.getElem?_map, List.getElem?_map, h] at e2
  exact Option.some.inj e2
end
/-- the law, over such a head -/
theorem walk {l : PySem.W.OpenLaw} {n k : Nat} {q : Program} {loose : List Str} {XP : (Str → Option Value) → Heap → Prop} {YP : World → Heap → Prop} {d : DefRec} {CX : World → CXT} {x : Str} {sp : PySem.W.Frag → Sp}
    (hn : l.most = some n) (hn2 : n ≤ sizeLine) (hdf : d.params.defaults = []) (hr : Room k callerA)
    (F : ∀ (w : World) (mg : Str → Option Value) (fa : Addr) (h : Heap), YP w h → h.Ns mainGlobals mg → mg d.name = some (.ref fa) →
      ∃ K : PySem.W.Frag, K.In h ∧ ∃ fd : FuncData, (∀ (s : Shared) (u : Value), BindsTo s fd ⟨[u], []⟩ [(x, u)]) ∧ ∀ base : Heap, K.In base → base.Ns mainGlobals mg → FnOk l.prog w K mg base (CX w) k fa fd [x] (sp K))
    (hsp : ∀ (K : PySem.W.Frag) (H : Hp) (a : Addr) (ns : List Int), Only H → SqL K H a (ns.map V.int) → sp K [.ref a] H (fun v _ => v = .bl true) fun _ _ _ => False)
    (hCX : ∀ (w : World) (H : Hp) (s : Shared) (e : Value) (s' : Shared), CX w [] H s (fun _ _ _ => False) e s' → False) : PySem.W.WalkO q loose XP YP l.row.toRowW d [] (fun f vs => PySem.call f vs) :=
  Att.attach_call hn hdf fun w s₀ s₁ mg mb fa o pm cd doc a vs ns G Y ho hd hcd hmg hobj hints hlen hg => by
    obtain ⟨K, KX, fd, hb, hF⟩ := F w mg fa _ Y G.T.g hmg
    exact law_call KX G.T.g G.T.b G.T.builtins G.T.nolimit hg hobj hints (Nat.le_trans hlen hn2) hr hF hb (fun H hO hS => hsp K H a ns hO hS) fun H e s' => hCX w H s₁ e s'
end Hd

end
set_option Elab.async false
set_option linter.all false
set_option maxRecDepth 100000
set_option maxHeartbeats 400000
namespace Lk00
section
open PySem PySem.Spec PyProof.Rows L2
def top (i : Nat) : Stmt := PySem.Challenge.pw_everywrap_k00_errors.main.body.getD i (.Pass ⟨0, 0, 0, 0⟩)
abbrev Rw : PySem.W.OpenRow := PySem.W.OpenLaw.row PySem.Challenge.rw_everywrap_k00_errors
abbrev qv : Program := PySem.W.view Rw.prog [67]
def nm0 : List Str := ["WrapError", "TooMany", "Unread", "NotWhole", "Rest", "Apart", "Unlike", "Growing", "Missing", "Taken", "InUse", "NothingToUndo", "NothingToRedo", "InvalidNumber", "InvalidNumbers", "InvalidModulus", "InvalidPrime", "InvalidRests", "InvalidBound", "InvalidCount", "InvalidWidth", "InvalidLine", "InvalidLines", "InvalidLattice", "InvalidTable", "InvalidGoal", "InvalidPolynomial", "InvalidDegrees", "InvalidItem", "InvalidItems"]
def nm1 : List Str := ["InvalidNodes", "InvalidKinds", "InvalidName", "InvalidTree", "InvalidContext", "InvalidPattern", "InvalidPlace", "InvalidStandings", "InvalidBook", "InvalidText", "InvalidCounts", "InvalidRules", "InvalidEnds", "InvalidProgram", "InvalidOther", "InvalidStanding", "InvalidLadder", "InvalidCode", "InvalidAnswers", "InvalidClaim", "_law_box", "_law_take", "_law_cell", "_law_same", "_law_mixed", "_law_anything", "_law_grown", "_law_still", "_law_made_0", "_law_made_1"]
def nm2 : List Str := ["_law_classes", "_law_read", "_law_raise", "_law_raised", "_law_class_right"]
def names : List Str := nm0 ++ nm1 ++ nm2
def fs0 : List (PySem.W.Frag → Bool) := [Hd.Df.ok (⟨("_law_box", none), "_law_box", "_law_box", defArgs (top 52), defBody (top 52), defScope (top 52), []⟩ : Hd.Df),
  Hd.Df.ok (⟨("_law_take", none), "_law_take", "_law_take", defArgs (top 53), defBody (top 53), defScope (top 53), []⟩ : Hd.Df),
  Hd.Df.ok (⟨("_law_cell", none), "_law_cell", "_law_cell", defArgs (top 54), defBody (top 54), defScope (top 54), []⟩ : Hd.Df),
  Hd.Df.ok (⟨("_law_same", none), "_law_same", "_law_same", defArgs (top 55), defBody (top 55), defScope (top 55), []⟩ : Hd.Df),
  Hd.Df.ok (⟨("_law_mixed", none), "_law_mixed", "_law_mixed", defArgs (top 56), defBody (top 56), defScope (top 56), []⟩ : Hd.Df),
  Hd.Df.ok (⟨("_law_anything", none), "_law_anything", "_law_anything", defArgs (top 57), defBody (top 57), defScope (top 57), []⟩ : Hd.Df),
  Hd.Df.ok (⟨("_law_grown", none), "_law_grown", "_law_grown", defArgs (top 58), defBody (top 58), defScope (top 58), []⟩ : Hd.Df),
  Hd.Df.ok (⟨("_law_still", none), "_law_still", "_law_still", defArgs (top 59), defBody (top 59), defScope (top 59), []⟩ : Hd.Df),
  Hd.Df.ok (⟨("_law_made_0", none), "_law_made_0", "_law_made_0", defArgs (top 60), defBody (top 60), defScope (top 60), []⟩ : Hd.Df),
  Hd.Df.ok (⟨("_law_made_1", none), "_law_made_1", "_law_made_1", defArgs (top 61), defBody (top 61), defScope (top 61), []⟩ : Hd.Df),
  Hd.Df.ok (⟨("_law_classes", none), "_law_classes", "_law_classes", defArgs (top 62), defBody (top 62), defScope (top 62), []⟩ : Hd.Df),
  Hd.Df.ok (⟨("_law_read", none), "_law_read", "_law_read", defArgs (top 63), defBody (top 63), defScope (top 63), []⟩ : Hd.Df),
  Hd.Df.ok (⟨("_law_raise", none), "_law_raise", "_law_raise", defArgs (top 64), defBody (top 64), defScope (top 64), []⟩ : Hd.Df),
  Hd.Df.ok (⟨("_law_raised", none), "_law_raised", "_law_raised", defArgs (top 65), defBody (top 65), defScope (top 65), []⟩ : Hd.Df),
  Hd.Df.ok (⟨("_law_class_right", none), "_law_class_right", "_law_class_right", defArgs (top 66), defBody (top 66), defScope (top 66), []⟩ : Hd.Df),
  Hd.Df.ok (⟨("law", none), "law", "law", defArgs (top 67), defBody (top 67), defScope (top 67), []⟩ : Hd.Df),
  Hd.excB (fun K => He.ga K "WrapError") (fun _ => Hd.veT),
  Hd.Df.ks (PySem.Challenge.rw_everywrap_k00_errors.prog.main.file : Str) true (fun K => He.ga K "WrapError") (⟨("WrapError", some "__init__"), "__init__", "WrapError.__init__", defArgs (Hd.initOf (top 1)), defBody (Hd.initOf (top 1)), defScope (Hd.initOf (top 1)), ["__class__"]⟩ : Hd.Df),
  Hd.excB (fun K => He.ga K "TooMany") (fun K => .ref (He.ga K "WrapError") :: Hd.veT),
  Hd.excB (fun K => He.ga K "Unread") (fun K => .ref (He.ga K "WrapError") :: Hd.veT),
  Hd.excB (fun K => He.ga K "NotWhole") (fun K => .ref (He.ga K "WrapError") :: Hd.veT),
  Hd.excB (fun K => He.ga K "Rest") (fun K => .ref (He.ga K "WrapError") :: Hd.veT),
  Hd.excB (fun K => He.ga K "Apart") (fun K => .ref (He.ga K "WrapError") :: Hd.veT),
  Hd.excB (fun K => He.ga K "Unlike") (fun K => .ref (He.ga K "WrapError") :: Hd.veT),
  Hd.excB (fun K => He.ga K "Growing") (fun K => .ref (He.ga K "WrapError") :: Hd.veT)]
def fs1 : List (PySem.W.Frag → Bool) := [Hd.excB (fun K => He.ga K "Missing") (fun K => .ref (He.ga K "WrapError") :: Hd.veT),
  Hd.excB (fun K => He.ga K "Taken") (fun K => .ref (He.ga K "WrapError") :: Hd.veT),
  Hd.excB (fun K => He.ga K "InUse") (fun K => .ref (He.ga K "WrapError") :: Hd.veT),
  Hd.excB (fun K => He.ga K "NothingToUndo") (fun K => .ref (He.ga K "WrapError") :: Hd.veT),
  Hd.excB (fun K => He.ga K "NothingToRedo") (fun K => .ref (He.ga K "WrapError") :: Hd.veT),
  Hd.excB (fun K => He.ga K "InvalidNumber") (fun K => .ref (He.ga K "WrapError") :: Hd.veT),
  Hd.excB (fun K => He.ga K "InvalidNumbers") (fun K => .ref (He.ga K "WrapError") :: Hd.veT),
  Hd.excB (fun K => He.ga K "InvalidModulus") (fun K => .ref (He.ga K "WrapError") :: Hd.veT),
  Hd.excB (fun K => He.ga K "InvalidPrime") (fun K => .ref (He.ga K "WrapError") :: Hd.veT),
  Hd.excB (fun K => He.ga K "InvalidRests") (fun K => .ref (He.ga K "WrapError") :: Hd.veT),
  Hd.excB (fun K => He.ga K "InvalidBound") (fun K => .ref (He.ga K "WrapError") :: Hd.veT),
  Hd.excB (fun K => He.ga K "InvalidCount") (fun K => .ref (He.ga K "WrapError") :: Hd.veT),
  Hd.excB (fun K => He.ga K "InvalidWidth") (fun K => .ref (He.ga K "WrapError") :: Hd.veT),
  Hd.excB (fun K => He.ga K "InvalidLine") (fun K => .ref (He.ga K "WrapError") :: Hd.veT),
  Hd.excB (fun K => He.ga K "InvalidLines") (fun K => .ref (He.ga K "WrapError") :: Hd.veT),
  Hd.excB (fun K => He.ga K "InvalidLattice") (fun K => .ref (He.ga K "WrapError") :: Hd.veT),
  Hd.excB (fun K => He.ga K "InvalidTable") (fun K => .ref (He.ga K "WrapError") :: Hd.veT),
  Hd.excB (fun K => He.ga K "InvalidGoal") (fun K => .ref (He.ga K "WrapError") :: Hd.veT),
  Hd.excB (fun K => He.ga K "InvalidPolynomial") (fun K => .ref (He.ga K "WrapError") :: Hd.veT),
  Hd.excB (fun K => He.ga K "InvalidDegrees") (fun K => .ref (He.ga K "WrapError") :: Hd.veT),
  Hd.excB (fun K => He.ga K "InvalidItem") (fun K => .ref (He.ga K "WrapError") :: Hd.veT),
  Hd.excB (fun K => He.ga K "InvalidItems") (fun K => .ref (He.ga K "WrapError") :: Hd.veT),
  Hd.excB (fun K => He.ga K "InvalidNodes") (fun K => .ref (He.ga K "WrapError") :: Hd.veT),
  Hd.excB (fun K => He.ga K "InvalidKinds") (fun K => .ref (He.ga K "WrapError") :: Hd.veT),
  Hd.excB (fun K => He.ga K "InvalidName") (fun K => .ref (He.ga K "WrapError") :: Hd.veT)]
def fs2 : List (PySem.W.Frag → Bool) := [Hd.excB (fun K => He.ga K "InvalidTree") (fun K => .ref (He.ga K "WrapError") :: Hd.veT),
  Hd.excB (fun K => He.ga K "InvalidContext") (fun K => .ref (He.ga K "WrapError") :: Hd.veT),
  Hd.excB (fun K => He.ga K "InvalidPattern") (fun K => .ref (He.ga K "WrapError") :: Hd.veT),
  Hd.excB (fun K => He.ga K "InvalidPlace") (fun K => .ref (He.ga K "WrapError") :: Hd.veT),
  Hd.excB (fun K => He.ga K "InvalidStandings") (fun K => .ref (He.ga K "WrapError") :: Hd.veT),
  Hd.excB (fun K => He.ga K "InvalidBook") (fun K => .ref (He.ga K "WrapError") :: Hd.veT),
  Hd.excB (fun K => He.ga K "InvalidText") (fun K => .ref (He.ga K "WrapError") :: Hd.veT),
  Hd.excB (fun K => He.ga K "InvalidCounts") (fun K => .ref (He.ga K "WrapError") :: Hd.veT),
  Hd.excB (fun K => He.ga K "InvalidRules") (fun K => .ref (He.ga K "WrapError") :: Hd.veT),
  Hd.excB (fun K => He.ga K "InvalidEnds") (fun K => .ref (He.ga K "WrapError") :: Hd.veT),
  Hd.excB (fun K => He.ga K "InvalidProgram") (fun K => .ref (He.ga K "WrapError") :: Hd.veT),
  Hd.excB (fun K => He.ga K "InvalidOther") (fun K => .ref (He.ga K "WrapError") :: Hd.veT),
  Hd.excB (fun K => He.ga K "InvalidStanding") (fun K => .ref (He.ga K "WrapError") :: Hd.veT),
  Hd.excB (fun K => He.ga K "InvalidLadder") (fun K => .ref (He.ga K "WrapError") :: Hd.veT),
  Hd.excB (fun K => He.ga K "InvalidCode") (fun K => .ref (He.ga K "WrapError") :: Hd.veT),
  Hd.excB (fun K => He.ga K "InvalidAnswers") (fun K => .ref (He.ga K "WrapError") :: Hd.veT),
  Hd.excB (fun K => He.ga K "InvalidClaim") (fun K => .ref (He.ga K "WrapError") :: Hd.veT),
  Hd.Df.ks (PySem.Challenge.rw_everywrap_k00_errors.prog.main.file : Str) false (fun K => He.ga K "TooMany") (⟨("TooMany", some "__init__"), "__init__", "TooMany.__init__", defArgs (Hd.initOf (top 2)), defBody (Hd.initOf (top 2)), defScope (Hd.initOf (top 2)), ["__class__"]⟩ : Hd.Df),
  Hd.Df.ks (PySem.Challenge.rw_everywrap_k00_errors.prog.main.file : Str) false (fun K => He.ga K "Unread") (⟨("Unread", some "__init__"), "__init__", "Unread.__init__", defArgs (Hd.initOf (top 3)), defBody (Hd.initOf (top 3)), defScope (Hd.initOf (top 3)), ["__class__"]⟩ : Hd.Df),
  Hd.Df.ks (PySem.Challenge.rw_everywrap_k00_errors.prog.main.file : Str) false (fun K => He.ga K "NotWhole") (⟨("NotWhole", some "__init__"), "__init__", "NotWhole.__init__", defArgs (Hd.initOf (top 4)), defBody (Hd.initOf (top 4)), defScope (Hd.initOf (top 4)), ["__class__"]⟩ : Hd.Df),
  Hd.Df.ks (PySem.Challenge.rw_everywrap_k00_errors.prog.main.file : Str) false (fun K => He.ga K "Rest") (⟨("Rest", some "__init__"), "__init__", "Rest.__init__", defArgs (Hd.initOf (top 5)), defBody (Hd.initOf (top 5)), defScope (Hd.initOf (top 5)), ["__class__"]⟩ : Hd.Df),
  Hd.Df.ks (PySem.Challenge.rw_everywrap_k00_errors.prog.main.file : Str) false (fun K => He.ga K "Apart") (⟨("Apart", some "__init__"), "__init__", "Apart.__init__", defArgs (Hd.initOf (top 6)), defBody (Hd.initOf (top 6)), defScope (Hd.initOf (top 6)), ["__class__"]⟩ : Hd.Df),
  Hd.Df.ks (PySem.Challenge.rw_everywrap_k00_errors.prog.main.file : Str) false (fun K => He.ga K "Unlike") (⟨("Unlike", some "__init__"), "__init__", "Unlike.__init__", defArgs (Hd.initOf (top 7)), defBody (Hd.initOf (top 7)), defScope (Hd.initOf (top 7)), ["__class__"]⟩ : Hd.Df),
  Hd.Df.ks (PySem.Challenge.rw_everywrap_k00_errors.prog.main.file : Str) false (fun K => He.ga K "Growing") (⟨("Growing", some "__init__"), "__init__", "Growing.__init__", defArgs (Hd.initOf (top 8)), defBody (Hd.initOf (top 8)), defScope (Hd.initOf (top 8)), ["__class__"]⟩ : Hd.Df),
  Hd.Df.ks (PySem.Challenge.rw_everywrap_k00_errors.prog.main.file : Str) false (fun K => He.ga K "Missing") (⟨("Missing", some "__init__"), "__init__", "Missing.__init__", defArgs (Hd.initOf (top 9)), defBody (Hd.initOf (top 9)), defScope (Hd.initOf (top 9)), ["__class__"]⟩ : Hd.Df)]
def fs3 : List (PySem.W.Frag → Bool) := [Hd.Df.ks (PySem.Challenge.rw_everywrap_k00_errors.prog.main.file : Str) false (fun K => He.ga K "Taken") (⟨("Taken", some "__init__"), "__init__", "Taken.__init__", defArgs (Hd.initOf (top 10)), defBody (Hd.initOf (top 10)), defScope (Hd.initOf (top 10)), ["__class__"]⟩ : Hd.Df),
  Hd.Df.ks (PySem.Challenge.rw_everywrap_k00_errors.prog.main.file : Str) false (fun K => He.ga K "InUse") (⟨("InUse", some "__init__"), "__init__", "InUse.__init__", defArgs (Hd.initOf (top 11)), defBody (Hd.initOf (top 11)), defScope (Hd.initOf (top 11)), ["__class__"]⟩ : Hd.Df),
  Hd.Df.ok (⟨("NothingToUndo", some "__init__"), "__init__", "NothingToUndo.__init__", defArgs (Hd.initOf (top 12)), defBody (Hd.initOf (top 12)), defScope (Hd.initOf (top 12)), []⟩ : Hd.Df),
  Hd.Df.ok (⟨("NothingToRedo", some "__init__"), "__init__", "NothingToRedo.__init__", defArgs (Hd.initOf (top 13)), defBody (Hd.initOf (top 13)), defScope (Hd.initOf (top 13)), []⟩ : Hd.Df),
  fun K => decide (PySem.W.nsIn K mainGlobals "_law_box" = some (some (.ref (He.ga K "_law_box")))),
  fun K => decide (PySem.W.nsIn K mainGlobals "_law_take" = some (some (.ref (He.ga K "_law_take")))),
  fun K => decide (PySem.W.nsIn K mainGlobals "_law_cell" = some (some (.ref (He.ga K "_law_cell")))),
  fun K => decide (PySem.W.nsIn K mainGlobals "_law_same" = some (some (.ref (He.ga K "_law_same")))),
  fun K => decide (PySem.W.nsIn K mainGlobals "_law_mixed" = some (some (.ref (He.ga K "_law_mixed")))),
  fun K => decide (PySem.W.nsIn K mainGlobals "_law_anything" = some (some (.ref (He.ga K "_law_anything")))),
  fun K => decide (PySem.W.nsIn K mainGlobals "_law_grown" = some (some (.ref (He.ga K "_law_grown")))),
  fun K => decide (PySem.W.nsIn K mainGlobals "_law_still" = some (some (.ref (He.ga K "_law_still")))),
  fun K => decide (PySem.W.nsIn K mainGlobals "_law_made_0" = some (some (.ref (He.ga K "_law_made_0")))),
  fun K => decide (PySem.W.nsIn K mainGlobals "_law_made_1" = some (some (.ref (He.ga K "_law_made_1")))),
  fun K => decide (PySem.W.nsIn K mainGlobals "_law_classes" = some (some (.ref (He.ga K "_law_classes")))),
  fun K => decide (PySem.W.nsIn K mainGlobals "_law_read" = some (some (.ref (He.ga K "_law_read")))),
  fun K => decide (PySem.W.nsIn K mainGlobals "_law_raise" = some (some (.ref (He.ga K "_law_raise")))),
  fun K => decide (PySem.W.nsIn K mainGlobals "_law_raised" = some (some (.ref (He.ga K "_law_raised")))),
  fun K => decide (PySem.W.nsIn K mainGlobals "_law_class_right" = some (some (.ref (He.ga K "_law_class_right")))),
  fun K => decide (PySem.W.nsIn K mainGlobals "law" = some (some (.ref (He.ga K "law")))),
  fun K => decide (PySem.W.nsIn K mainGlobals "isinstance" = some none),
  fun K => decide (PySem.W.nsIn K mainGlobals "int" = some none),
  fun K => decide (PySem.W.nsIn K mainGlobals "bool" = some none),
  fun K => decide (PySem.W.nsIn K mainGlobals "str" = some none),
  fun K => decide (PySem.W.nsIn K mainGlobals "list" = some none)]
def fs4 : List (PySem.W.Frag → Bool) := [fun K => decide (PySem.W.nsIn K mainGlobals "tuple" = some none),
  fun K => decide (PySem.W.nsIn K mainGlobals "dict" = some none),
  fun K => decide (PySem.W.nsIn K mainGlobals "len" = some none),
  fun K => decide (PySem.W.nsIn K mainGlobals "sum" = some none),
  fun K => decide (PySem.W.nsIn K mainGlobals "range" = some none),
  fun K => decide (PySem.W.nsIn K mainGlobals "abs" = some none),
  fun K => decide (PySem.W.nsIn K mainGlobals "max" = some none),
  fun K => decide (PySem.W.nsIn K mainGlobals "min" = some none),
  fun K => decide (PySem.W.nsIn K mainGlobals "WrapError" = some (some (.ref (He.ga K "WrapError")))),
  fun K => decide (PySem.W.findIn K (.ref (He.ga K "WrapError")) "__init__" = some (some (.ref (He.ma K (He.ga K "WrapError") "__init__")))),
  fun K => decide (PySem.W.nsIn K mainGlobals "super" = some none),
  fun K => decide (PySem.W.nsIn K cStatics "thirdparty.any" = some none),
  fun K => decide (PySem.W.specialIn K (.builtin "object.__class__") "__get__" = some (some (.builtin "getset_descriptor.__get__"))),
  fun K => decide (PySem.W.takesIn K (.builtin "object.__class__") = some true),
  fun K => decide (PySem.W.nsIn K mainGlobals "ValueError" = some none),
  fun K => decide (PySem.W.typeIn K (.ref (He.ma K (He.ga K "WrapError") "__init__")) = some (.type "function")),
  fun K => PySem.W.fnIn K (He.ma K (He.ga K "WrapError") "__init__"),
  fun K => decide (PySem.W.alongIn K "__init__" (.ref (He.ga K "WrapError") :: Hd.veT) = some (some (.ref (He.ma K (He.ga K "WrapError") "__init__")))),
  fun K => decide (PySem.W.nsIn K mainGlobals "InvalidNumber" = some (some (.ref (He.ga K "InvalidNumber")))),
  fun K => Hd.clsB K (He.ga K "InvalidNumber") (He.ma K (He.ga K "WrapError") "__init__") ["given"],
  fun K => decide ((He.ga K "InvalidNumber") ≠ (He.ga K "WrapError")),
  fun K => decide (PySem.W.nsIn K mainGlobals "InvalidNumbers" = some (some (.ref (He.ga K "InvalidNumbers")))),
  fun K => Hd.clsB K (He.ga K "InvalidNumbers") (He.ma K (He.ga K "WrapError") "__init__") ["given"],
  fun K => decide ((He.ga K "InvalidNumbers") ≠ (He.ga K "WrapError")),
  fun K => decide (PySem.W.nsIn K mainGlobals "InvalidModulus" = some (some (.ref (He.ga K "InvalidModulus"))))]
def fs5 : List (PySem.W.Frag → Bool) := [fun K => Hd.clsB K (He.ga K "InvalidModulus") (He.ma K (He.ga K "WrapError") "__init__") ["given"],
  fun K => decide ((He.ga K "InvalidModulus") ≠ (He.ga K "WrapError")),
  fun K => decide (PySem.W.nsIn K mainGlobals "InvalidPrime" = some (some (.ref (He.ga K "InvalidPrime")))),
  fun K => Hd.clsB K (He.ga K "InvalidPrime") (He.ma K (He.ga K "WrapError") "__init__") ["given"],
  fun K => decide ((He.ga K "InvalidPrime") ≠ (He.ga K "WrapError")),
  fun K => decide (PySem.W.nsIn K mainGlobals "InvalidRests" = some (some (.ref (He.ga K "InvalidRests")))),
  fun K => Hd.clsB K (He.ga K "InvalidRests") (He.ma K (He.ga K "WrapError") "__init__") ["given"],
  fun K => decide ((He.ga K "InvalidRests") ≠ (He.ga K "WrapError")),
  fun K => decide (PySem.W.nsIn K mainGlobals "InvalidBound" = some (some (.ref (He.ga K "InvalidBound")))),
  fun K => Hd.clsB K (He.ga K "InvalidBound") (He.ma K (He.ga K "WrapError") "__init__") ["given"],
  fun K => decide ((He.ga K "InvalidBound") ≠ (He.ga K "WrapError")),
  fun K => decide (PySem.W.nsIn K mainGlobals "InvalidCount" = some (some (.ref (He.ga K "InvalidCount")))),
  fun K => Hd.clsB K (He.ga K "InvalidCount") (He.ma K (He.ga K "WrapError") "__init__") ["given"],
  fun K => decide ((He.ga K "InvalidCount") ≠ (He.ga K "WrapError")),
  fun K => decide (PySem.W.nsIn K mainGlobals "InvalidWidth" = some (some (.ref (He.ga K "InvalidWidth")))),
  fun K => Hd.clsB K (He.ga K "InvalidWidth") (He.ma K (He.ga K "WrapError") "__init__") ["given"],
  fun K => decide ((He.ga K "InvalidWidth") ≠ (He.ga K "WrapError")),
  fun K => decide (PySem.W.nsIn K mainGlobals "InvalidLine" = some (some (.ref (He.ga K "InvalidLine")))),
  fun K => Hd.clsB K (He.ga K "InvalidLine") (He.ma K (He.ga K "WrapError") "__init__") ["given"],
  fun K => decide ((He.ga K "InvalidLine") ≠ (He.ga K "WrapError")),
  fun K => decide (PySem.W.nsIn K mainGlobals "InvalidLines" = some (some (.ref (He.ga K "InvalidLines")))),
  fun K => Hd.clsB K (He.ga K "InvalidLines") (He.ma K (He.ga K "WrapError") "__init__") ["given"],
  fun K => decide ((He.ga K "InvalidLines") ≠ (He.ga K "WrapError")),
  fun K => decide (PySem.W.nsIn K mainGlobals "InvalidLattice" = some (some (.ref (He.ga K "InvalidLattice")))),
  fun K => Hd.clsB K (He.ga K "InvalidLattice") (He.ma K (He.ga K "WrapError") "__init__") ["given"]]
def fs6 : List (PySem.W.Frag → Bool) := [fun K => decide ((He.ga K "InvalidLattice") ≠ (He.ga K "WrapError")),
  fun K => decide (PySem.W.nsIn K mainGlobals "InvalidTable" = some (some (.ref (He.ga K "InvalidTable")))),
  fun K => Hd.clsB K (He.ga K "InvalidTable") (He.ma K (He.ga K "WrapError") "__init__") ["given"],
  fun K => decide ((He.ga K "InvalidTable") ≠ (He.ga K "WrapError")),
  fun K => decide (PySem.W.nsIn K mainGlobals "InvalidGoal" = some (some (.ref (He.ga K "InvalidGoal")))),
  fun K => Hd.clsB K (He.ga K "InvalidGoal") (He.ma K (He.ga K "WrapError") "__init__") ["given"],
  fun K => decide ((He.ga K "InvalidGoal") ≠ (He.ga K "WrapError")),
  fun K => decide (PySem.W.nsIn K mainGlobals "InvalidPolynomial" = some (some (.ref (He.ga K "InvalidPolynomial")))),
  fun K => Hd.clsB K (He.ga K "InvalidPolynomial") (He.ma K (He.ga K "WrapError") "__init__") ["given"],
  fun K => decide ((He.ga K "InvalidPolynomial") ≠ (He.ga K "WrapError")),
  fun K => decide (PySem.W.nsIn K mainGlobals "InvalidDegrees" = some (some (.ref (He.ga K "InvalidDegrees")))),
  fun K => Hd.clsB K (He.ga K "InvalidDegrees") (He.ma K (He.ga K "WrapError") "__init__") ["given"],
  fun K => decide ((He.ga K "InvalidDegrees") ≠ (He.ga K "WrapError")),
  fun K => decide (PySem.W.nsIn K mainGlobals "InvalidItem" = some (some (.ref (He.ga K "InvalidItem")))),
  fun K => Hd.clsB K (He.ga K "InvalidItem") (He.ma K (He.ga K "WrapError") "__init__") ["given"],
  fun K => decide ((He.ga K "InvalidItem") ≠ (He.ga K "WrapError")),
  fun K => decide (PySem.W.nsIn K mainGlobals "InvalidItems" = some (some (.ref (He.ga K "InvalidItems")))),
  fun K => Hd.clsB K (He.ga K "InvalidItems") (He.ma K (He.ga K "WrapError") "__init__") ["given"],
  fun K => decide ((He.ga K "InvalidItems") ≠ (He.ga K "WrapError")),
  fun K => decide (PySem.W.nsIn K mainGlobals "InvalidNodes" = some (some (.ref (He.ga K "InvalidNodes")))),
  fun K => Hd.clsB K (He.ga K "InvalidNodes") (He.ma K (He.ga K "WrapError") "__init__") ["given"],
  fun K => decide ((He.ga K "InvalidNodes") ≠ (He.ga K "WrapError")),
  fun K => decide (PySem.W.nsIn K mainGlobals "InvalidKinds" = some (some (.ref (He.ga K "InvalidKinds")))),
  fun K => Hd.clsB K (He.ga K "InvalidKinds") (He.ma K (He.ga K "WrapError") "__init__") ["given"],
  fun K => decide ((He.ga K "InvalidKinds") ≠ (He.ga K "WrapError"))]
def fs7 : List (PySem.W.Frag → Bool) := [fun K => decide (PySem.W.nsIn K mainGlobals "InvalidName" = some (some (.ref (He.ga K "InvalidName")))),
  fun K => Hd.clsB K (He.ga K "InvalidName") (He.ma K (He.ga K "WrapError") "__init__") ["given"],
  fun K => decide ((He.ga K "InvalidName") ≠ (He.ga K "WrapError")),
  fun K => decide (PySem.W.nsIn K mainGlobals "InvalidTree" = some (some (.ref (He.ga K "InvalidTree")))),
  fun K => Hd.clsB K (He.ga K "InvalidTree") (He.ma K (He.ga K "WrapError") "__init__") ["given"],
  fun K => decide ((He.ga K "InvalidTree") ≠ (He.ga K "WrapError")),
  fun K => decide (PySem.W.nsIn K mainGlobals "InvalidContext" = some (some (.ref (He.ga K "InvalidContext")))),
  fun K => Hd.clsB K (He.ga K "InvalidContext") (He.ma K (He.ga K "WrapError") "__init__") ["given"],
  fun K => decide ((He.ga K "InvalidContext") ≠ (He.ga K "WrapError")),
  fun K => decide (PySem.W.nsIn K mainGlobals "InvalidPattern" = some (some (.ref (He.ga K "InvalidPattern")))),
  fun K => Hd.clsB K (He.ga K "InvalidPattern") (He.ma K (He.ga K "WrapError") "__init__") ["given"],
  fun K => decide ((He.ga K "InvalidPattern") ≠ (He.ga K "WrapError")),
  fun K => decide (PySem.W.nsIn K mainGlobals "InvalidPlace" = some (some (.ref (He.ga K "InvalidPlace")))),
  fun K => Hd.clsB K (He.ga K "InvalidPlace") (He.ma K (He.ga K "WrapError") "__init__") ["given"],
  fun K => decide ((He.ga K "InvalidPlace") ≠ (He.ga K "WrapError")),
  fun K => decide (PySem.W.nsIn K mainGlobals "InvalidStandings" = some (some (.ref (He.ga K "InvalidStandings")))),
  fun K => Hd.clsB K (He.ga K "InvalidStandings") (He.ma K (He.ga K "WrapError") "__init__") ["given"],
  fun K => decide ((He.ga K "InvalidStandings") ≠ (He.ga K "WrapError")),
  fun K => decide (PySem.W.nsIn K mainGlobals "InvalidBook" = some (some (.ref (He.ga K "InvalidBook")))),
  fun K => Hd.clsB K (He.ga K "InvalidBook") (He.ma K (He.ga K "WrapError") "__init__") ["given"],
  fun K => decide ((He.ga K "InvalidBook") ≠ (He.ga K "WrapError")),
  fun K => decide (PySem.W.nsIn K mainGlobals "InvalidText" = some (some (.ref (He.ga K "InvalidText")))),
  fun K => Hd.clsB K (He.ga K "InvalidText") (He.ma K (He.ga K "WrapError") "__init__") ["given"],
  fun K => decide ((He.ga K "InvalidText") ≠ (He.ga K "WrapError")),
  fun K => decide (PySem.W.nsIn K mainGlobals "InvalidCounts" = some (some (.ref (He.ga K "InvalidCounts"))))]
def fs8 : List (PySem.W.Frag → Bool) := [fun K => Hd.clsB K (He.ga K "InvalidCounts") (He.ma K (He.ga K "WrapError") "__init__") ["given"],
  fun K => decide ((He.ga K "InvalidCounts") ≠ (He.ga K "WrapError")),
  fun K => decide (PySem.W.nsIn K mainGlobals "InvalidRules" = some (some (.ref (He.ga K "InvalidRules")))),
  fun K => Hd.clsB K (He.ga K "InvalidRules") (He.ma K (He.ga K "WrapError") "__init__") ["given"],
  fun K => decide ((He.ga K "InvalidRules") ≠ (He.ga K "WrapError")),
  fun K => decide (PySem.W.nsIn K mainGlobals "InvalidEnds" = some (some (.ref (He.ga K "InvalidEnds")))),
  fun K => Hd.clsB K (He.ga K "InvalidEnds") (He.ma K (He.ga K "WrapError") "__init__") ["given"],
  fun K => decide ((He.ga K "InvalidEnds") ≠ (He.ga K "WrapError")),
  fun K => decide (PySem.W.nsIn K mainGlobals "InvalidProgram" = some (some (.ref (He.ga K "InvalidProgram")))),
  fun K => Hd.clsB K (He.ga K "InvalidProgram") (He.ma K (He.ga K "WrapError") "__init__") ["given"],
  fun K => decide ((He.ga K "InvalidProgram") ≠ (He.ga K "WrapError")),
  fun K => decide (PySem.W.nsIn K mainGlobals "InvalidOther" = some (some (.ref (He.ga K "InvalidOther")))),
  fun K => Hd.clsB K (He.ga K "InvalidOther") (He.ma K (He.ga K "WrapError") "__init__") ["given"],
  fun K => decide ((He.ga K "InvalidOther") ≠ (He.ga K "WrapError")),
  fun K => decide (PySem.W.nsIn K mainGlobals "InvalidStanding" = some (some (.ref (He.ga K "InvalidStanding")))),
  fun K => Hd.clsB K (He.ga K "InvalidStanding") (He.ma K (He.ga K "WrapError") "__init__") ["given"],
  fun K => decide ((He.ga K "InvalidStanding") ≠ (He.ga K "WrapError")),
  fun K => decide (PySem.W.nsIn K mainGlobals "InvalidLadder" = some (some (.ref (He.ga K "InvalidLadder")))),
  fun K => Hd.clsB K (He.ga K "InvalidLadder") (He.ma K (He.ga K "WrapError") "__init__") ["given"],
  fun K => decide ((He.ga K "InvalidLadder") ≠ (He.ga K "WrapError")),
  fun K => decide (PySem.W.nsIn K mainGlobals "InvalidCode" = some (some (.ref (He.ga K "InvalidCode")))),
  fun K => Hd.clsB K (He.ga K "InvalidCode") (He.ma K (He.ga K "WrapError") "__init__") ["given"],
  fun K => decide ((He.ga K "InvalidCode") ≠ (He.ga K "WrapError")),
  fun K => decide (PySem.W.nsIn K mainGlobals "InvalidAnswers" = some (some (.ref (He.ga K "InvalidAnswers")))),
  fun K => Hd.clsB K (He.ga K "InvalidAnswers") (He.ma K (He.ga K "WrapError") "__init__") ["given"]]
def fs9 : List (PySem.W.Frag → Bool) := [fun K => decide ((He.ga K "InvalidAnswers") ≠ (He.ga K "WrapError")),
  fun K => decide (PySem.W.nsIn K mainGlobals "InvalidClaim" = some (some (.ref (He.ga K "InvalidClaim")))),
  fun K => Hd.clsB K (He.ga K "InvalidClaim") (He.ma K (He.ga K "WrapError") "__init__") ["given"],
  fun K => decide ((He.ga K "InvalidClaim") ≠ (He.ga K "WrapError")),
  fun K => decide (PySem.W.nsIn K mainGlobals "TooMany" = some (some (.ref (He.ga K "TooMany")))),
  fun K => decide (PySem.W.findIn K (.ref (He.ga K "TooMany")) "__init__" = some (some (.ref (He.ma K (He.ga K "TooMany") "__init__")))),
  fun K => Hd.clsB K (He.ga K "TooMany") (He.ma K (He.ga K "TooMany") "__init__") ["count"],
  fun K => decide ((He.ga K "TooMany") ≠ (He.ga K "WrapError")),
  fun K => decide (PySem.W.nsIn K mainGlobals "Unread" = some (some (.ref (He.ga K "Unread")))),
  fun K => decide (PySem.W.findIn K (.ref (He.ga K "Unread")) "__init__" = some (some (.ref (He.ma K (He.ga K "Unread") "__init__")))),
  fun K => Hd.clsB K (He.ga K "Unread") (He.ma K (He.ga K "Unread") "__init__") ["line"],
  fun K => decide ((He.ga K "Unread") ≠ (He.ga K "WrapError")),
  fun K => decide (PySem.W.nsIn K mainGlobals "NotWhole" = some (some (.ref (He.ga K "NotWhole")))),
  fun K => decide (PySem.W.findIn K (.ref (He.ga K "NotWhole")) "__init__" = some (some (.ref (He.ma K (He.ga K "NotWhole") "__init__")))),
  fun K => Hd.clsB K (He.ga K "NotWhole") (He.ma K (He.ga K "NotWhole") "__init__") ["tree"],
  fun K => decide ((He.ga K "NotWhole") ≠ (He.ga K "WrapError")),
  fun K => decide (PySem.W.nsIn K mainGlobals "Rest" = some (some (.ref (He.ga K "Rest")))),
  fun K => decide (PySem.W.findIn K (.ref (He.ga K "Rest")) "__init__" = some (some (.ref (He.ma K (He.ga K "Rest") "__init__")))),
  fun K => Hd.clsB K (He.ga K "Rest") (He.ma K (He.ga K "Rest") "__init__") ["tree"],
  fun K => decide ((He.ga K "Rest") ≠ (He.ga K "WrapError")),
  fun K => decide (PySem.W.nsIn K mainGlobals "Apart" = some (some (.ref (He.ga K "Apart")))),
  fun K => decide (PySem.W.findIn K (.ref (He.ga K "Apart")) "__init__" = some (some (.ref (He.ma K (He.ga K "Apart") "__init__")))),
  fun K => Hd.clsB K (He.ga K "Apart") (He.ma K (He.ga K "Apart") "__init__") ["tree"],
  fun K => decide ((He.ga K "Apart") ≠ (He.ga K "WrapError")),
  fun K => decide (PySem.W.nsIn K mainGlobals "Growing" = some (some (.ref (He.ga K "Growing"))))]
def fs10 : List (PySem.W.Frag → Bool) := [fun K => decide (PySem.W.findIn K (.ref (He.ga K "Growing")) "__init__" = some (some (.ref (He.ma K (He.ga K "Growing") "__init__")))),
  fun K => Hd.clsB K (He.ga K "Growing") (He.ma K (He.ga K "Growing") "__init__") ["name"],
  fun K => decide ((He.ga K "Growing") ≠ (He.ga K "WrapError")),
  fun K => decide (PySem.W.nsIn K mainGlobals "Missing" = some (some (.ref (He.ga K "Missing")))),
  fun K => decide (PySem.W.findIn K (.ref (He.ga K "Missing")) "__init__" = some (some (.ref (He.ma K (He.ga K "Missing") "__init__")))),
  fun K => Hd.clsB K (He.ga K "Missing") (He.ma K (He.ga K "Missing") "__init__") ["name"],
  fun K => decide ((He.ga K "Missing") ≠ (He.ga K "WrapError")),
  fun K => decide (PySem.W.nsIn K mainGlobals "Taken" = some (some (.ref (He.ga K "Taken")))),
  fun K => decide (PySem.W.findIn K (.ref (He.ga K "Taken")) "__init__" = some (some (.ref (He.ma K (He.ga K "Taken") "__init__")))),
  fun K => Hd.clsB K (He.ga K "Taken") (He.ma K (He.ga K "Taken") "__init__") ["name"],
  fun K => decide ((He.ga K "Taken") ≠ (He.ga K "WrapError")),
  fun K => decide (PySem.W.nsIn K mainGlobals "InUse" = some (some (.ref (He.ga K "InUse")))),
  fun K => decide (PySem.W.findIn K (.ref (He.ga K "InUse")) "__init__" = some (some (.ref (He.ma K (He.ga K "InUse") "__init__")))),
  fun K => Hd.clsB K (He.ga K "InUse") (He.ma K (He.ga K "InUse") "__init__") ["name"],
  fun K => decide ((He.ga K "InUse") ≠ (He.ga K "WrapError")),
  fun K => decide (PySem.W.nsIn K mainGlobals "Unlike" = some (some (.ref (He.ga K "Unlike")))),
  fun K => decide (PySem.W.findIn K (.ref (He.ga K "Unlike")) "__init__" = some (some (.ref (He.ma K (He.ga K "Unlike") "__init__")))),
  fun K => Hd.clsB K (He.ga K "Unlike") (He.ma K (He.ga K "Unlike") "__init__") ["one", "other"],
  fun K => decide ((He.ga K "Unlike") ≠ (He.ga K "WrapError")),
  fun K => decide (PySem.W.nsIn K mainGlobals "NothingToUndo" = some (some (.ref (He.ga K "NothingToUndo")))),
  fun K => decide (PySem.W.findIn K (.ref (He.ga K "NothingToUndo")) "__init__" = some (some (.ref (He.ma K (He.ga K "NothingToUndo") "__init__")))),
  fun K => Hd.clsB K (He.ga K "NothingToUndo") (He.ma K (He.ga K "NothingToUndo") "__init__") [],
  fun K => decide ((He.ga K "NothingToUndo") ≠ (He.ga K "WrapError")),
  fun K => decide (PySem.W.nsIn K mainGlobals "NothingToRedo" = some (some (.ref (He.ga K "NothingToRedo")))),
  fun K => decide (PySem.W.findIn K (.ref (He.ga K "NothingToRedo")) "__init__" = some (some (.ref (He.ma K (He.ga K "NothingToRedo") "__init__"))))]
def fs11 : List (PySem.W.Frag → Bool) := [fun K => Hd.clsB K (He.ga K "NothingToRedo") (He.ma K (He.ga K "NothingToRedo") "__init__") [],
  fun K => decide ((He.ga K "NothingToRedo") ≠ (He.ga K "WrapError")),
  fun K => decide (List.Nodup [(He.ga K "InvalidNumber"), (He.ga K "InvalidNumbers"), (He.ga K "InvalidModulus"), (He.ga K "InvalidPrime"), (He.ga K "InvalidRests"), (He.ga K "InvalidBound"), (He.ga K "InvalidCount"), (He.ga K "InvalidWidth"), (He.ga K "InvalidLine"), (He.ga K "InvalidLines"), (He.ga K "InvalidLattice"), (He.ga K "InvalidTable"), (He.ga K "InvalidGoal"), (He.ga K "InvalidPolynomial"), (He.ga K "InvalidDegrees"), (He.ga K "InvalidItem"), (He.ga K "InvalidItems"), (He.ga K "InvalidNodes"), (He.ga K "InvalidKinds"), (He.ga K "InvalidName"), (He.ga K "InvalidTree"), (He.ga K "InvalidContext"), (He.ga K "InvalidPattern"), (He.ga K "InvalidPlace"), (He.ga K "InvalidStandings"), (He.ga K "InvalidBook"), (He.ga K "InvalidText"), (He.ga K "InvalidCounts"), (He.ga K "InvalidRules"), (He.ga K "InvalidEnds"), (He.ga K "InvalidProgram"), (He.ga K "InvalidOther"), (He.ga K "InvalidStanding"), (He.ga K "InvalidLadder"), (He.ga K "InvalidCode"), (He.ga K "InvalidAnswers"), (He.ga K "InvalidClaim"), (He.ga K "TooMany"), (He.ga K "Unread"), (He.ga K "NotWhole"), (He.ga K "Rest"), (He.ga K "Apart"), (He.ga K "Growing"), (He.ga K "Missing"), (He.ga K "Taken"), (He.ga K "InUse"), (He.ga K "Unlike"), (He.ga K "NothingToUndo"), (He.ga K "NothingToRedo")])]
def fs : List (List (PySem.W.Frag → Bool)) := [fs0, fs1, fs2, fs3, fs4, fs5, fs6, fs7, fs8, fs9, fs10, fs11]
def fnl : List Hd.Df := [(⟨("_law_box", none), "_law_box", "_law_box", defArgs (top 52), defBody (top 52), defScope (top 52), []⟩ : Hd.Df),
  (⟨("_law_take", none), "_law_take", "_law_take", defArgs (top 53), defBody (top 53), defScope (top 53), []⟩ : Hd.Df),
  (⟨("_law_cell", none), "_law_cell", "_law_cell", defArgs (top 54), defBody (top 54), defScope (top 54), []⟩ : Hd.Df),
  (⟨("_law_same", none), "_law_same", "_law_same", defArgs (top 55), defBody (top 55), defScope (top 55), []⟩ : Hd.Df),
  (⟨("_law_mixed", none), "_law_mixed", "_law_mixed", defArgs (top 56), defBody (top 56), defScope (top 56), []⟩ : Hd.Df),
  (⟨("_law_anything", none), "_law_anything", "_law_anything", defArgs (top 57), defBody (top 57), defScope (top 57), []⟩ : Hd.Df),
  (⟨("_law_grown", none), "_law_grown", "_law_grown", defArgs (top 58), defBody (top 58), defScope (top 58), []⟩ : Hd.Df),
  (⟨("_law_still", none), "_law_still", "_law_still", defArgs (top 59), defBody (top 59), defScope (top 59), []⟩ : Hd.Df),
  (⟨("_law_made_0", none), "_law_made_0", "_law_made_0", defArgs (top 60), defBody (top 60), defScope (top 60), []⟩ : Hd.Df),
  (⟨("_law_made_1", none), "_law_made_1", "_law_made_1", defArgs (top 61), defBody (top 61), defScope (top 61), []⟩ : Hd.Df),
  (⟨("_law_classes", none), "_law_classes", "_law_classes", defArgs (top 62), defBody (top 62), defScope (top 62), []⟩ : Hd.Df),
  (⟨("_law_read", none), "_law_read", "_law_read", defArgs (top 63), defBody (top 63), defScope (top 63), []⟩ : Hd.Df),
  (⟨("_law_raise", none), "_law_raise", "_law_raise", defArgs (top 64), defBody (top 64), defScope (top 64), []⟩ : Hd.Df),
  (⟨("_law_raised", none), "_law_raised", "_law_raised", defArgs (top 65), defBody (top 65), defScope (top 65), []⟩ : Hd.Df),
  (⟨("_law_class_right", none), "_law_class_right", "_law_class_right", defArgs (top 66), defBody (top 66), defScope (top 66), []⟩ : Hd.Df),
  (⟨("law", none), "law", "law", defArgs (top 67), defBody (top 67), defScope (top 67), []⟩ : Hd.Df),
  (⟨("WrapError", some "__init__"), "__init__", "WrapError.__init__", defArgs (Hd.initOf (top 1)), defBody (Hd.initOf (top 1)), defScope (Hd.initOf (top 1)), ["__class__"]⟩ : Hd.Df),
  (⟨("TooMany", some "__init__"), "__init__", "TooMany.__init__", defArgs (Hd.initOf (top 2)), defBody (Hd.initOf (top 2)), defScope (Hd.initOf (top 2)), ["__class__"]⟩ : Hd.Df),
  (⟨("Unread", some "__init__"), "__init__", "Unread.__init__", defArgs (Hd.initOf (top 3)), defBody (Hd.initOf (top 3)), defScope (Hd.initOf (top 3)), ["__class__"]⟩ : Hd.Df),
  (⟨("NotWhole", some "__init__"), "__init__", "NotWhole.__init__", defArgs (Hd.initOf (top 4)), defBody (Hd.initOf (top 4)), defScope (Hd.initOf (top 4)), ["__class__"]⟩ : Hd.Df),
  (⟨("Rest", some "__init__"), "__init__", "Rest.__init__", defArgs (Hd.initOf (top 5)), defBody (Hd.initOf (top 5)), defScope (Hd.initOf (top 5)), ["__class__"]⟩ : Hd.Df),
  (⟨("Apart", some "__init__"), "__init__", "Apart.__init__", defArgs (Hd.initOf (top 6)), defBody (Hd.initOf (top 6)), defScope (Hd.initOf (top 6)), ["__class__"]⟩ : Hd.Df),
  (⟨("Unlike", some "__init__"), "__init__", "Unlike.__init__", defArgs (Hd.initOf (top 7)), defBody (Hd.initOf (top 7)), defScope (Hd.initOf (top 7)), ["__class__"]⟩ : Hd.Df),
  (⟨("Growing", some "__init__"), "__init__", "Growing.__init__", defArgs (Hd.initOf (top 8)), defBody (Hd.initOf (top 8)), defScope (Hd.initOf (top 8)), ["__class__"]⟩ : Hd.Df),
  (⟨("Missing", some "__init__"), "__init__", "Missing.__init__", defArgs (Hd.initOf (top 9)), defBody (Hd.initOf (top 9)), defScope (Hd.initOf (top 9)), ["__class__"]⟩ : Hd.Df),
  (⟨("Taken", some "__init__"), "__init__", "Taken.__init__", defArgs (Hd.initOf (top 10)), defBody (Hd.initOf (top 10)), defScope (Hd.initOf (top 10)), ["__class__"]⟩ : Hd.Df),
  (⟨("InUse", some "__init__"), "__init__", "InUse.__init__", defArgs (Hd.initOf (top 11)), defBody (Hd.initOf (top 11)), defScope (Hd.initOf (top 11)), ["__class__"]⟩ : Hd.Df),
  (⟨("NothingToUndo", some "__init__"), "__init__", "NothingToUndo.__init__", defArgs (Hd.initOf (top 12)), defBody (Hd.initOf (top 12)), defScope (Hd.initOf (top 12)), []⟩ : Hd.Df),
  (⟨("NothingToRedo", some "__init__"), "__init__", "NothingToRedo.__init__", defArgs (Hd.initOf (top 13)), defBody (Hd.initOf (top 13)), defScope (Hd.initOf (top 13)), []⟩ : Hd.Df)]
def ob (s : PySem.W.SharedT) : Hd.Al := Hd.obsG 4 fs fnl (HandSHeadRun.getT s)
theorem ob_eq (s : PySem.W.SharedT) : ob s = (Hd.hook 4 fs fnl).obs s.abs := Hd.obsG_eq (HandSHeadRun.getT_eq s)
set_option maxHeartbeats 0 in
theorem run (w : World) : HandSHeadRun.RunEq Rw qv (Hd.hook 4 fs fnl) ob 12000 names w := by
  intro os
  kernel_rfl
end
end Lk00
section
set_option Elab.async false
set_option linter.all false
set_option maxRecDepth 100000
set_option maxHeartbeats 1000000
/-! EwA: values as data over the layer: frames, data, types of values, typed slots, typed readings. -/
namespace Ew
open PySem PySem.Spec PyProof.Rows L2

/-! ### boxes and frames -/
/-- the shape of a box of draws -/
def BxL (xs : List V) : Prop := ∃ (g : Int) (b : Bool) (c n : Int), xs = [.int g, .bl b, .int c, .int n] ∧ 0 ≤ c ∧ c < 2147483629
def BoxAt (H : Hp) (a : Addr) : Prop := ∃ xs, H a = some (.lst xs) ∧ BxL xs
/-- everything stands as it stood; the boxes at B may have turned -/
def Ex (B : Addr → Prop) (H H' : Hp) : Prop := ∀ a o, H a = some o → H' a = some o ∨ (B a ∧ BoxAt H a ∧ BoxAt H' a)
section
variable {B : Addr → Prop} {H H1 H2 H3 : Hp} {a p : Addr} {o : HO} {K : PySem.W.Frag} {xs : List V}
theorem Ex.refl (B : Addr → Prop) (H : Hp) : Ex B H H := fun _ _ h => .inl h
theorem Ex.trans (e : Ex B H1 H2) (f : Ex B H2 H3) : Ex B H1 H3 := fun a o h => by
  rcases e a o h with q | ⟨b, q1, q2⟩
  · rcases f a o q with r | ⟨b, r1, r2⟩
    · exact .inl r
    · refine .inr ⟨b, ?_, r2⟩
      obtain ⟨xs, r1, r3⟩ := r1
      rw [q] at r1; cases r1
      exact ⟨xs, h, r3⟩
  · obtain ⟨ys, q3, q4⟩ := q2
    rcases f a _ q3 with r | ⟨_, r1, r2⟩
    · exact .inr ⟨b, q1, ys, r, q4⟩
    · exact .inr ⟨b, q1, r2⟩
theorem Ex.keep (e : Ex B H1 H2) (h : H1 a = some o) (n : ¬ B a) : H2 a = some o := (e a o h).elim id fun q => absurd q.1 n
theorem Ex.keepT (e : Ex B H1 H2) (h : H1 a = some o) (n : ∀ xs, o ≠ .lst xs) : H2 a = some o := (e a o h).elim id fun q => by
  obtain ⟨_, ⟨xs, q, _⟩, _⟩ := q
  rw [h] at q; cases q
  exact absurd rfl (n xs)
theorem Ex.free (e : Ex B H1 H2) (h : H2 p = none) : H1 p = none := by
  cases q : H1 p with
  | none => rfl
  | some o =>
    rcases e p o q with r | ⟨_, _, _, r, _⟩
    · rw [r] at h; cases h
    · rw [r] at h; cases h
theorem Ex.new (h : H p = none) : Ex B H (upd H p o) := fun b u e => .inl (by rw [upd_ne (ne_of_none e h)]; exact e)
/-- an object that was not there at H1 is changed -/
theorem Ex.mut (e : Ex B H1 H2) (h : H1 p = none) : Ex B H1 (upd H2 p o) := fun b u q => by
  have nb := ne_of_none q h
  rcases e b u q with r | ⟨x, r1, r2⟩
  · exact .inl (by rw [upd_ne nb]; exact r)
  · refine .inr ⟨x, r1, ?_⟩
    obtain ⟨ys, r3, r4⟩ := r2
    exact ⟨ys, by rw [upd_ne nb]; exact r3, r4⟩
theorem Ex.box (e : Ex B H1 H2) (h : BoxAt H1 a) : BoxAt H2 a := by
  obtain ⟨xs, h1, h2⟩ := h
  rcases e a _ h1 with r | ⟨_, _, r⟩
  · exact ⟨xs, r, h2⟩
  · exact r
/-- the box itself is changed -/
theorem Ex.turn (b : B p) (h : BoxAt H p) (n : BxL xs) : Ex B H (upd H p (.lst xs)) := fun c u q => by
  by_cases e : c = p
  · subst e
    exact .inr ⟨b, h, xs, upd_same, n⟩
  · exact .inl (by rw [upd_ne e]; exact q)
theorem Ex.sqT (e : Ex B H1 H2) (h : SqT K H1 a xs) : SqT K H2 a xs := by
  rcases h with (h | ⟨o, h⟩) | h
  · exact .inl (.inl (e.keepT h fun _ z => nomatch z))
  · exact .inl (.inr ⟨o, e.keepT h fun _ z => nomatch z⟩)
  · exact .inr h
theorem Ex.sqL (e : Ex B H1 H2) (n : ¬ B a) (h : SqL K H1 a xs) : SqL K H2 a xs := by
  rcases h with (h | ⟨o, h⟩) | h
  · exact .inl (.inl (e.keep h n))
  · exact .inl (.inr ⟨o, e.keep h n⟩)
  · exact .inr h
theorem Ex.sub {B' : Addr → Prop} (e : Ex B H1 H2) (s : ∀ a, B a → B' a) : Ex B' H1 H2 := fun a o h => (e a o h).imp id fun q => ⟨s a q.1, q.2⟩
end

/-- .. and what is under construction at M may have changed -/
def Exm (M B : Addr → Prop) (H H' : Hp) : Prop := ∀ a o, H a = some o → H' a = some o ∨ (M a ∧ (∃ xs, o = .lst xs) ∧ (∃ ys, H' a = some (.lst ys)) ∧ (B a → BoxAt H a → BoxAt H' a))
section
variable {M B : Addr → Prop} {H H1 H2 H3 : Hp} {a p D : Addr} {o : HO} {K : PySem.W.Frag} {xs ys : List V}
theorem Ex.toM (e : Ex B H1 H2) (s : ∀ a, B a → M a) : Exm M B H1 H2 := fun a o h => (e a o h).imp id fun ⟨b, ⟨xs, q1, q2⟩, q3⟩ => ⟨s a b, ⟨xs, by rw [h] at q1; exact Option.some.inj q1⟩, let ⟨ys, r, _⟩ := q3; ⟨ys, r⟩, fun _ _ => q3⟩
theorem Exm.keep (e : Exm M B H1 H2) (h : H1 a = some o) (n : ¬ M a) : H2 a = some o := (e a o h).elim id fun q => absurd q.1 n
theorem Exm.keepT (e : Exm M B H1 H2) (h : H1 a = some o) (n : ∀ xs, o ≠ .lst xs) : H2 a = some o := (e a o h).elim id fun ⟨_, ⟨xs, q⟩, _⟩ => absurd q (n xs)
theorem Exm.box (e : Exm M B H1 H2) (b : B a) (h : BoxAt H1 a) : BoxAt H2 a := by
  obtain ⟨xs, h1, h2⟩ := h
  rcases e a _ h1 with r | ⟨_, _, _, r⟩
  · exact ⟨xs, r, h2⟩
  · exact r b ⟨xs, h1, h2⟩
theorem Exm.sqT (e : Exm M B H1 H2) (h : SqT K H1 a xs) : SqT K H2 a xs := by
  rcases h with (h | ⟨o, h⟩) | h
  · exact .inl (.inl (e.keepT h fun _ z => nomatch z))
  · exact .inl (.inr ⟨o, e.keepT h fun _ z => nomatch z⟩)
  · exact .inr h
theorem Exm.sqL (e : Exm M B H1 H2) (n : ¬ M a) (h : SqL K H1 a xs) : SqL K H2 a xs := by
  rcases h with (h | ⟨o, h⟩) | h
  · exact .inl (.inl (e.keep h n))
  · exact .inl (.inr ⟨o, e.keep h n⟩)
  · exact .inr h
/-- a list under construction is written -/
theorem Exm.put (m : M D) (b : ¬ B D) (h : H D = some (.lst xs)) : Exm M B H (upd H D (.lst ys)) := fun c u q => by
  by_cases e : c = D
  · subst e
    rw [h] at q; cases q
    exact .inr ⟨m, ⟨xs, rfl⟩, ⟨ys, upd_same⟩, fun z => absurd z b⟩
  · exact .inl (by rw [upd_ne e]; exact q)
end
/-- M and D -/
def ad (M : Addr → Prop) (D : Addr) : Addr → Prop := fun a => M a ∨ a = D

/-! ### data -/
def kD : Key → PyData
  | .inl i => .int i
  | .inr x => .str x
mutual
/-- the value is the data; its lists are no boxes of B -/
inductive Rp (M : Addr → Prop) (K : PySem.W.Frag) (H : Hp) : V → PyData → Prop
  | non : Rp M K H .non .none
  | bl (b : Bool) : Rp M K H (.bl b) (.bool b)
  | int (i : Int) : Rp M K H (.int i) (.int i)
  | str (x : Str) : Rp M K H (.str x) (.str x)
  | lst {a : Addr} {xs : List V} {ds : List PyData} : H a = some (.lst xs) → ¬ M a → RpA M K H xs ds → Rp M K H (.ref a) (.list ds)
  | tup {a : Addr} {xs : List V} {ds : List PyData} : SqT K H a xs → RpA M K H xs ds → Rp M K H (.ref a) (.tuple ds)
  | dic {a : Addr} {kvs : List (Key × V)} {ds : List (PyData × PyData)} : H a = some (.dK kvs) → RpK M K H kvs ds → Rp M K H (.ref a) (.dict ds)
inductive RpA (M : Addr → Prop) (K : PySem.W.Frag) (H : Hp) : List V → List PyData → Prop
  | nil : RpA M K H [] []
  | cons {v : V} {vs : List V} {d : PyData} {ds : List PyData} : Rp M K H v d → RpA M K H vs ds → RpA M K H (v :: vs) (d :: ds)
inductive RpK (M : Addr → Prop) (K : PySem.W.Frag) (H : Hp) : List (Key × V) → List (PyData × PyData) → Prop
  | nil : RpK M K H [] []
  | cons {k : Key} {v : V} {vs : List (Key × V)} {d : PyData} {ds : List (PyData × PyData)} : Rp M K H v d → RpK M K H vs ds → RpK M K H ((k, v) :: vs) ((kD k, d) :: ds)
end
section
variable {M B : Addr → Prop} {K : PySem.W.Frag} {H H' : Hp}
mutual
theorem Rp.up (e : Exm M B H H') : ∀ {v : V} {d : PyData}, Rp M K H v d → Rp M K H' v d
  | _, _, .non => .non
  | _, _, .bl b => .bl b
  | _, _, .int i => .int i
  | _, _, .str x => .str x
  | _, _, .lst h n r => .lst (e.keep h n) n (RpA.up e r)
  | _, _, .tup h r => .tup (e.sqT h) (RpA.up e r)
  | _, _, .dic h r => .dic (e.keepT h fun _ z => nomatch z) (RpK.up e r)
theorem RpA.up (e : Exm M B H H') : ∀ {v : List V} {d : List PyData}, RpA M K H v d → RpA M K H' v d
  | _, _, .nil => .nil
  | _, _, .cons h r => .cons (Rp.up e h) (RpA.up e r)
theorem RpK.up (e : Exm M B H H') : ∀ {v : List (Key × V)} {d : List (PyData × PyData)}, RpK M K H v d → RpK M K H' v d
  | _, _, .nil => .nil
  | _, _, .cons h r => .cons (Rp.up e h) (RpK.up e r)
end
theorem RpA.length : ∀ {v : List V} {d : List PyData}, RpA M K H v d → v.length = d.length
  | _, _, .nil => rfl
  | _, _, .cons _ r => by rw [List.length_cons, List.length_cons, RpA.length r]
theorem RpA.get : ∀ {v : List V} {d : List PyData} {i : Nat} {x : V}, RpA M K H v d → v[i]? = some x → ∃ y, d[i]? = some y ∧ Rp M K H x y
  | _, _, _, _, .nil, e => by simp at e
  | _, _, 0, _, .cons h _, e => by simp at e; subst e; exact ⟨_, rfl, h⟩
  | _, _, i + 1, _, .cons _ r, e => by
    obtain ⟨y, h1, h2⟩ := RpA.get (i := i) r (by simpa using e)
    exact ⟨y, by simpa using h1, h2⟩
theorem RpA.getD : ∀ {v : List V} {d : List PyData} {i : Nat} {y : PyData}, RpA M K H v d → d[i]? = some y → ∃ x, v[i]? = some x ∧ Rp M K H x y
  | _, _, _, _, .nil, e => by simp at e
  | _, _, 0, _, .cons h _, e => by simp at e; subst e; exact ⟨_, rfl, h⟩
  | _, _, i + 1, _, .cons _ r, e => by
    obtain ⟨y, h1, h2⟩ := RpA.getD (i := i) r (by simpa using e)
    exact ⟨y, by simpa using h1, h2⟩
theorem RpA.append : ∀ {v w : List V} {d e : List PyData}, RpA M K H v d → RpA M K H w e → RpA M K H (v ++ w) (d ++ e)
  | _, _, _, _, .nil, s => s
  | _, _, _, _, .cons h r, s => .cons h (RpA.append r s)
mutual
theorem Rp.weak {D : Addr} (n : H D = none) : ∀ {v : V} {d : PyData}, Rp M K H v d → Rp (ad M D) K H v d
  | _, _, .non => .non
  | _, _, .bl b => .bl b
  | _, _, .int i => .int i
  | _, _, .str x => .str x
  | _, _, .lst h q r => .lst h (fun z => z.elim q (ne_of_none h n)) (RpA.weak n r)
  | _, _, .tup h r => .tup h (RpA.weak n r)
  | _, _, .dic h r => .dic h (RpK.weak n r)
theorem RpA.weak {D : Addr} (n : H D = none) : ∀ {v : List V} {d : List PyData}, RpA M K H v d → RpA (ad M D) K H v d
  | _, _, .nil => .nil
  | _, _, .cons h r => .cons (Rp.weak n h) (RpA.weak n r)
theorem RpK.weak {D : Addr} (n : H D = none) : ∀ {v : List (Key × V)} {d : List (PyData × PyData)}, RpK M K H v d → RpK (ad M D) K H v d
  | _, _, .nil => .nil
  | _, _, .cons h r => .cons (Rp.weak n h) (RpK.weak n r)
end
mutual
theorem Rp.drop {D : Addr} : ∀ {v : V} {d : PyData}, Rp (ad M D) K H v d → Rp M K H v d
  | _, _, .non => .non
  | _, _, .bl b => .bl b
  | _, _, .int i => .int i
  | _, _, .str x => .str x
  | _, _, .lst h q r => .lst h (fun z => q (.inl z)) (RpA.drop r)
  | _, _, .tup h r => .tup h (RpA.drop r)
  | _, _, .dic h r => .dic h (RpK.drop r)
theorem RpA.drop {D : Addr} : ∀ {v : List V} {d : List PyData}, RpA (ad M D) K H v d → RpA M K H v d
  | _, _, .nil => .nil
  | _, _, .cons h r => .cons (Rp.drop h) (RpA.drop r)
theorem RpK.drop {D : Addr} : ∀ {v : List (Key × V)} {d : List (PyData × PyData)}, RpK (ad M D) K H v d → RpK M K H v d
  | _, _, .nil => .nil
  | _, _, .cons h r => .cons (Rp.drop h) (RpK.drop r)
end
end

/-! ### types of values -/
structure Typ where
  p : (M B : Addr → Prop) → V → Hp → Prop
  up : ∀ {M B : Addr → Prop} {v : V} {H H' : Hp}, Exm M B H H' → p M B v H → p M B v H'
  weak : ∀ {M B : Addr → Prop} {v : V} {H : Hp} {D : Addr}, H D = none → p M B v H → p (ad M D) B v H
  drop : ∀ {M B : Addr → Prop} {v : V} {H : Hp} {D : Addr}, p (ad M D) B v H → p M B v H
/-- just the data d -/
def dt (K : PySem.W.Frag) (d : PyData) : Typ := ⟨fun M _ v H => Rp M K H v d, fun e h => Rp.up e h, fun n h => Rp.weak n h, fun h => Rp.drop h⟩
/-- just the value v -/
def isV (w : V) : Typ := ⟨fun _ _ v _ => v = w, fun _ h => h, fun _ h => h, fun h => h⟩
/-- a box -/
def bx : Typ := ⟨fun _ B v H => ∃ p, v = .ref p ∧ B p ∧ BoxAt H p, fun e ⟨p, h1, h2, h3⟩ => ⟨p, h1, h2, e.box h2 h3⟩, fun _ h => h, fun h => h⟩
def exT {α : Type} (A : α → Typ) : Typ := ⟨fun M B v H => ∃ x, (A x).p M B v H, fun e ⟨x, h⟩ => ⟨x, (A x).up e h⟩, fun n ⟨x, h⟩ => ⟨x, (A x).weak n h⟩, fun ⟨x, h⟩ => ⟨x, (A x).drop h⟩⟩
def gd (φ : Prop) (A : Typ) : Typ := ⟨fun M B v H => φ ∧ A.p M B v H, fun e ⟨h1, h2⟩ => ⟨h1, A.up e h2⟩, fun n ⟨h1, h2⟩ => ⟨h1, A.weak n h2⟩, fun ⟨h1, h2⟩ => ⟨h1, A.drop h2⟩⟩
def anT (A C : Typ) : Typ := ⟨fun M B v H => A.p M B v H ∧ C.p M B v H, fun e ⟨h1, h2⟩ => ⟨A.up e h1, C.up e h2⟩, fun n ⟨h1, h2⟩ => ⟨A.weak n h1, C.weak n h2⟩, fun ⟨h1, h2⟩ => ⟨A.drop h1, C.drop h2⟩⟩
section
variable {M B : Addr → Prop}
/-- values by types, one by one -/
def TysV (M B : Addr → Prop) : List Typ → List V → Hp → Prop
  | [], [], _ => True
  | T :: Ts, v :: vs, H => T.p M B v H ∧ TysV M B Ts vs H
  | _, _, _ => False
theorem TysV.up {H H' : Hp} (e : Exm M B H H') : ∀ {Ts : List Typ} {vs : List V}, TysV M B Ts vs H → TysV M B Ts vs H'
  | [], [], h => h
  | T :: _, _ :: _, h => ⟨T.up e h.1, TysV.up e h.2⟩
  | [], _ :: _, h => h.elim
  | _ :: _, [], h => h.elim
theorem TysV.weak {H : Hp} {D : Addr} (n : H D = none) : ∀ {Ts : List Typ} {vs : List V}, TysV M B Ts vs H → TysV (ad M D) B Ts vs H
  | [], [], h => h
  | T :: _, _ :: _, h => ⟨T.weak n h.1, TysV.weak n h.2⟩
  | [], _ :: _, h => h.elim
  | _ :: _, [], h => h.elim
theorem TysV.drop {H : Hp} {D : Addr} : ∀ {Ts : List Typ} {vs : List V}, TysV (ad M D) B Ts vs H → TysV M B Ts vs H
  | [], [], h => h
  | T :: _, _ :: _, h => ⟨T.drop h.1, TysV.drop h.2⟩
  | [], _ :: _, h => h.elim
  | _ :: _, [], h => h.elim
theorem TysV.length {H : Hp} : ∀ {Ts : List Typ} {vs : List V}, TysV M B Ts vs H → vs.length = Ts.length
  | [], [], _ => rfl
  | _ :: _, _ :: _, h => by rw [List.length_cons, List.length_cons, TysV.length h.2]
  | [], _ :: _, h => h.elim
  | _ :: _, [], h => h.elim
theorem TysV.append {H : Hp} : ∀ {Ts Us : List Typ} {vs ws : List V}, TysV M B Ts vs H → TysV M B Us ws H → TysV M B (Ts ++ Us) (vs ++ ws) H
  | [], _, [], _, _, h => h
  | _ :: _, _, _ :: _, _, h, k => ⟨h.1, TysV.append h.2 k⟩
  | [], _, _ :: _, _, h, _ => h.elim
  | _ :: _, _, [], _, h, _ => h.elim
theorem TysV.get {H : Hp} : ∀ {Ts : List Typ} {vs : List V} {i : Nat} {T : Typ}, TysV M B Ts vs H → Ts[i]? = some T → ∃ v, vs[i]? = some v ∧ T.p M B v H
  | T :: _, v :: _, 0, _, h, e => by simp at e; subst e; exact ⟨v, rfl, h.1⟩
  | _ :: _, _ :: _, i + 1, _, h, e => by
    obtain ⟨v, h1, h2⟩ := TysV.get (i := i) h.2 (by simpa using e)
    exact ⟨v, by simpa using h1, h2⟩
  | [], [], _, _, _, e => by simp at e
  | [], _ :: _, _, _, h, _ => h.elim
  | _ :: _, [], _, _, h, _ => h.elim
theorem TysV.data {K : PySem.W.Frag} {H : Hp} : ∀ {ds : List PyData} {vs : List V}, TysV M B (ds.map (dt K)) vs H → RpA M K H vs ds
  | [], [], _ => .nil
  | _ :: _, _ :: _, h => .cons h.1 (TysV.data h.2)
  | [], _ :: _, h => h.elim
  | _ :: _, [], h => h.elim
theorem TysV.ofData {K : PySem.W.Frag} {H : Hp} : ∀ {ds : List PyData} {vs : List V}, RpA M K H vs ds → TysV M B (ds.map (dt K)) vs H
  | [], [], _ => True.intro
  | _ :: _, _ :: _, .cons h r => ⟨h, TysV.ofData r⟩

/-! ### typed slots -/
abbrev Gam := List (Option Typ)
def EnvL (M B : Addr → Prop) : Gam → L2.St → Hp → Prop
  | [], [], _ => True
  | none :: Γ, _ :: σ, H => EnvL M B Γ σ H
  | some T :: Γ, some v :: σ, H => T.p M B v H ∧ EnvL M B Γ σ H
  | _, _, _ => False
theorem EnvL.up {H H' : Hp} (e : Exm M B H H') : ∀ {Γ : Gam} {σ : L2.St}, EnvL M B Γ σ H → EnvL M B Γ σ H'
  | [], [], h => h
  | none :: Γ, _ :: σ, h => EnvL.up (Γ := Γ) e h
  | some T :: _, some _ :: _, h => ⟨T.up e h.1, EnvL.up e h.2⟩
  | [], _ :: _, h => h.elim
  | none :: _, [], h => h.elim
  | some _ :: _, [], h => h.elim
  | some _ :: _, none :: _, h => h.elim
theorem EnvL.weak {H : Hp} {D : Addr} (n : H D = none) : ∀ {Γ : Gam} {σ : L2.St}, EnvL M B Γ σ H → EnvL (ad M D) B Γ σ H
  | [], [], h => h
  | none :: Γ, _ :: σ, h => EnvL.weak (Γ := Γ) n h
  | some T :: _, some _ :: _, h => ⟨T.weak n h.1, EnvL.weak n h.2⟩
  | [], _ :: _, h => h.elim
  | none :: _, [], h => h.elim
  | some _ :: _, [], h => h.elim
  | some _ :: _, none :: _, h => h.elim
theorem EnvL.drop {H : Hp} {D : Addr} : ∀ {Γ : Gam} {σ : L2.St}, EnvL (ad M D) B Γ σ H → EnvL M B Γ σ H
  | [], [], h => h
  | none :: Γ, _ :: σ, h => EnvL.drop (Γ := Γ) h
  | some T :: _, some _ :: _, h => ⟨T.drop h.1, EnvL.drop h.2⟩
  | [], _ :: _, h => h.elim
  | none :: _, [], h => h.elim
  | some _ :: _, [], h => h.elim
  | some _ :: _, none :: _, h => h.elim
theorem EnvL.length {H : Hp} : ∀ {Γ : Gam} {σ : L2.St}, EnvL M B Γ σ H → σ.length = Γ.length
  | [], [], _ => rfl
  | none :: Γ, _ :: σ, h => by rw [List.length_cons, List.length_cons, EnvL.length (Γ := Γ) h]
  | some T :: _, some _ :: _, h => by rw [List.length_cons, List.length_cons, EnvL.length h.2]
  | [], _ :: _, h => h.elim
  | none :: _, [], h => h.elim
  | some _ :: _, [], h => h.elim
  | some _ :: _, none :: _, h => h.elim
theorem EnvL.get {H : Hp} : ∀ {Γ : Gam} {σ : L2.St} {i : Nat} {T : Typ}, EnvL M B Γ σ H → Γ[i]? = some (some T) → ∃ v, σ[i]? = some (some v) ∧ T.p M B v H
  | some T :: _, some v :: _, 0, _, h, e => by simp at e; subst e; exact ⟨v, rfl, h.1⟩
  | none :: _, _ :: _, 0, _, _, e => by simp at e
  | none :: Γ, _ :: σ, i + 1, _, h, e => by
    obtain ⟨v, h1, h2⟩ := EnvL.get (Γ := Γ) (i := i) h (by simpa using e)
    exact ⟨v, by simpa using h1, h2⟩
  | some _ :: _, some _ :: _, i + 1, _, h, e => by
    obtain ⟨v, h1, h2⟩ := EnvL.get (i := i) h.2 (by simpa using e)
    exact ⟨v, by simpa using h1, h2⟩
  | [], [], _, _, _, e => by simp at e
  | [], _ :: _, _, _, h, _ => h.elim
  | none :: _, [], _, _, h, _ => h.elim
  | some _ :: _, [], _, _, h, _ => h.elim
  | some _ :: _, none :: _, _, _, h, _ => h.elim
theorem EnvL.set {H : Hp} {T : Typ} {v : V} (hv : T.p M B v H) : ∀ {Γ : Gam} {σ : L2.St} {i : Nat}, EnvL M B Γ σ H → EnvL M B (Γ.set i (some T)) (σ.set i (some v)) H
  | [], [], _, h => by simpa using h
  | none :: Γ, s :: σ, 0, h => ⟨hv, h⟩
  | some _ :: _, some _ :: _, 0, h => ⟨hv, h.2⟩
  | none :: Γ, none :: σ, i + 1, h => EnvL.set (Γ := Γ) (i := i) hv h
  | none :: Γ, some _ :: σ, i + 1, h => EnvL.set (Γ := Γ) (i := i) hv h
  | some _ :: _, some _ :: _, i + 1, h => ⟨h.1, EnvL.set (i := i) hv h.2⟩
  | [], _ :: _, _, h => h.elim
  | none :: _, [], _, h => h.elim
  | some _ :: _, [], _, h => h.elim
  | some _ :: _, none :: _, _, h => h.elim
theorem EnvL.wipe1 {H : Hp} : ∀ {Γ : Gam} {σ : L2.St} {i : Nat}, EnvL M B Γ σ H → EnvL M B (Γ.set i none) (σ.set i none) H
  | [], [], _, h => by simpa using h
  | none :: Γ, s :: σ, 0, h => h
  | some _ :: _, some _ :: _, 0, h => h.2
  | none :: Γ, none :: σ, i + 1, h => EnvL.wipe1 (Γ := Γ) (i := i) h
  | none :: Γ, some _ :: σ, i + 1, h => EnvL.wipe1 (Γ := Γ) (i := i) h
  | some _ :: _, some _ :: _, i + 1, h => ⟨h.1, EnvL.wipe1 (i := i) h.2⟩
  | [], _ :: _, _, h => h.elim
  | none :: _, [], _, h => h.elim
  | some _ :: _, [], _, h => h.elim
  | some _ :: _, none :: _, _, h => h.elim
def wipeG (Γ : Gam) : List Nat → Gam
  | [] => Γ
  | v :: vs => (wipeG Γ vs).set v none
theorem EnvL.wipe {H : Hp} {Γ : Gam} {σ : L2.St} (h : EnvL M B Γ σ H) : ∀ vs : List Nat, EnvL M B (wipeG Γ vs) (L2.wipe σ vs) H
  | [] => h
  | _ :: vs => EnvL.wipe1 (EnvL.wipe h vs)
/-- slots may be forgotten -/
def Less : Gam → Gam → Prop
  | [], [] => True
  | none :: Γ, _ :: Δ => Less Γ Δ
  | some T :: Γ, some U :: Δ => (∀ M B v H, U.p M B v H → T.p M B v H) ∧ Less Γ Δ
  | _, _ => False
theorem EnvL.less {H : Hp} : ∀ {Γ Δ : Gam} {σ : L2.St}, Less Γ Δ → EnvL M B Δ σ H → EnvL M B Γ σ H
  | [], [], [], _, _ => True.intro
  | none :: Γ, none :: Δ, _ :: σ, l, h => EnvL.less (Γ := Γ) (Δ := Δ) l h
  | none :: Γ, some _ :: Δ, some _ :: σ, l, h => EnvL.less (Γ := Γ) (Δ := Δ) l h.2
  | some _ :: Γ, some _ :: Δ, some _ :: σ, l, h => ⟨l.1 _ _ _ _ h.1, EnvL.less (Γ := Γ) (Δ := Δ) l.2 h.2⟩
  | [], [], _ :: _, _, h => h.elim
  | [], _ :: _, _, l, _ => l.elim
  | none :: _, [], _, l, _ => l.elim
  | some _ :: _, [], _, l, _ => l.elim
  | some _ :: _, none :: _, _, l, _ => l.elim
  | none :: _, none :: _, [], _, h => h.elim
  | none :: _, some _ :: _, [], _, h => h.elim
  | none :: _, some _ :: _, none :: _, _, h => h.elim
  | some _ :: _, some _ :: _, [], _, h => h.elim
  | some _ :: _, some _ :: _, none :: _, _, h => h.elim
theorem Less.refl : ∀ (Γ : Gam), Less Γ Γ
  | [] => True.intro
  | none :: Γ => Less.refl Γ
  | some _ :: Γ => ⟨fun _ _ _ _ h => h, Less.refl Γ⟩
end
end Ew

end
section
set_option Elab.async false
set_option linter.all false
set_option maxRecDepth 100000
set_option maxHeartbeats 1000000
/-! EwB: typed readings. -/
namespace Ew
open PySem PySem.Spec PyProof.Rows L2
abbrev Sx := L2.St
theorem Exm.refl (M B : Addr → Prop) (H : Hp) : Exm M B H H := fun _ _ h => .inl h
theorem Exm.trans {M B : Addr → Prop} {H1 H2 H3 : Hp} (e : Exm M B H1 H2) (f : Exm M B H2 H3) : Exm M B H1 H3 := fun a o h => by
  rcases e a o h with q | ⟨m, ⟨xs, rfl⟩, ⟨ys, q⟩, b⟩
  · exact f a o q |>.imp id fun ⟨m, x, y, b⟩ => ⟨m, x, y, fun z1 z2 => b z1 (by obtain ⟨xs, z3, z4⟩ := z2; rw [h] at z3; cases z3; exact ⟨xs, q, z4⟩)⟩
  · rcases f a _ q with r | ⟨_, _, y, b'⟩
    · exact .inr ⟨m, ⟨xs, rfl⟩, ⟨ys, r⟩, fun z1 z2 => by
        obtain ⟨zs, z3, z4⟩ := b z1 z2
        rw [q] at z3; cases z3
        exact ⟨ys, r, z4⟩⟩
    · exact .inr ⟨m, ⟨xs, rfl⟩, y, fun z1 z2 => b' z1 (b z1 z2)⟩
/-- the world of a def's body: M no data's own, B the boxes, H0 the heap at the entry, Ω what else stands while expressions are evaluated -/
structure Wd where
  M : Addr → Prop
  B : Addr → Prop
  H0 : Hp
  Ω : Hp → Prop
  sub : ∀ a, B a → M a
  kept : ∀ {H H' : Hp}, Ex B H H' → Ω H → Ω H'
structure Cxt (W : Wd) (H : Hp) : Prop where
  box : ∀ a, W.B a → BoxAt H a
  al : ∀ a, W.M a → H a ≠ none
  ex : Ex W.B W.H0 H
  own : W.Ω H
/-- what is made at D is under construction -/
def Wd.ad (W : Wd) (D : Addr) : Wd := ⟨Ew.ad W.M D, W.B, W.H0, W.Ω, fun a h => .inl (W.sub a h), W.kept⟩
abbrev Typ.at (T : Typ) (W : Wd) (v : V) (H : Hp) : Prop := T.p W.M W.B v H
section
variable {W : Wd} {H H' : Hp} {p : Addr}
theorem Ex.toW (e : Ex W.B H H') : Exm W.M W.B H H' := e.toM W.sub
theorem Cxt.up (c : Cxt W H) (e : Ex W.B H H') : Cxt W H' := ⟨fun a h => e.box (c.box a h), fun a h z => c.al a h (e.free z), c.ex.trans e, W.kept e c.own⟩
theorem Cxt.nm (c : Cxt W H) (h : H p = none) : ¬ W.M p := fun b => c.al p b h
theorem Cxt.nb (c : Cxt W H) (h : H p = none) : ¬ W.B p := fun b => c.nm h (W.sub p b)
end
section
variable (W : Wd) (Γ : Gam)
abbrev EnvW (σ : Sx) (H : Hp) : Prop := EnvL W.M W.B Γ σ H
def Ty (te : TE) (T : Typ) : Prop := ∀ σ H, Cxt W H → EnvW W Γ σ H → ∀ Q : VK, (∀ v H1, Ex W.B H H1 → T.at W v H1 → Q v H1) → te σ H Q
def TyA (ta : TA) (Ts : List Typ) : Prop := ∀ σ H, Cxt W H → EnvW W Γ σ H → ∀ Q : List V → Hp → Prop, (∀ vs H1, Ex W.B H H1 → TysV W.M W.B Ts vs H1 → Q vs H1) → ta σ H Q
/-- a new list -/
def TyL (te : TE) (Ts : List Typ) : Prop := ∀ σ H, Cxt W H → EnvW W Γ σ H → ∀ Q : VK, (∀ p xs H1, Ex W.B H H1 → H p = none → H1 p = some (.lst xs) → TysV W.M W.B Ts xs H1 → Q (.ref p) H1) → te σ H Q
def Tt (tt : TT) (φ : Bool → Prop) : Prop := ∀ σ H, Cxt W H → EnvW W Γ σ H → ∀ Q : Bool → Hp → Prop, (∀ b H1, Ex W.B H H1 → φ b → Q b H1) → tt σ H Q
def TyS (ts : TS) (N : Sx → Hp → Prop) (R : V → Hp → Prop) (Bk Ct : Sx → Hp → Prop) : Prop := ∀ σ H, Cxt W H → EnvW W Γ σ H → ∀ D : Ends, (∀ σ' H', Exm W.M W.B H H' → N σ' H' → D.nx σ' H') → (∀ v H', R v H' → D.rt v H') →
  (∀ σ' H', Exm W.M W.B H H' → Bk σ' H' → D.bk σ' H') → (∀ σ' H', Exm W.M W.B H H' → Ct σ' H' → D.ct σ' H') → ts D σ H
def OpT (r : R2) (A C P : Typ) : Prop := ∀ u v H, Cxt W H → A.at W u H → C.at W v H → ∀ Q : VK, (∀ w H1, Ex W.B H H1 → P.at W w H1 → Q w H1) → r u v H Q
def UnT (r : V → Hp → VK → Prop) (A P : Typ) : Prop := ∀ u H, Cxt W H → A.at W u H → ∀ Q : VK, (∀ w H1, Ex W.B H H1 → P.at W w H1 → Q w H1) → r u H Q
def CbT (r : List V → Hp → VK → Prop) (As : List Typ) (P : Typ) : Prop := ∀ us H, Cxt W H → TysV W.M W.B As us H → ∀ Q : VK, (∀ w H1, Ex W.B H H1 → P.at W w H1 → Q w H1) → r us H Q
/-- a new list comes -/
def CbL (r : List V → Hp → VK → Prop) (As Ts : List Typ) : Prop := ∀ us H, Cxt W H → TysV W.M W.B As us H → ∀ Q : VK, (∀ p xs H1, Ex W.B H H1 → H p = none → H1 p = some (.lst xs) → TysV W.M W.B Ts xs H1 → Q (.ref p) H1) → r us H Q
/-- slots by their types, in a world -/
def nE : Sx → Hp → Prop := fun σ H => Cxt W H ∧ EnvW W Γ σ H
end
/-- the same but for Ω -/
structure Wd.Like (W W' : Wd) : Prop where
  m : W'.M = W.M
  b : W'.B = W.B
theorem Wd.Like.refl (W : Wd) : W.Like W := ⟨rfl, rfl⟩
theorem Wd.Like.exm {W W' : Wd} (l : W.Like W') {H H' : Hp} (e : Exm W'.M W'.B H H') : Exm W.M W.B H H' := by rw [← l.m, ← l.b]; exact e
abbrev noN : Sx → Hp → Prop := fun _ _ => False
/-- a tuple, a list of values by their types -/
def tupT (K : PySem.W.Frag) (Ts : List Typ) : Typ := ⟨fun M B v H => ∃ a xs, v = .ref a ∧ SqT K H a xs ∧ TysV M B Ts xs H, fun e ⟨a, xs, h1, h2, h3⟩ => ⟨a, xs, h1, e.sqT h2, h3.up e⟩, fun n ⟨a, xs, h1, h2, h3⟩ => ⟨a, xs, h1, h2, h3.weak n⟩, fun ⟨a, xs, h1, h2, h3⟩ => ⟨a, xs, h1, h2, h3.drop⟩⟩
def lstT (Ts : List Typ) : Typ := ⟨fun M B v H => ∃ a xs, v = .ref a ∧ ¬ M a ∧ H a = some (.lst xs) ∧ TysV M B Ts xs H, fun e ⟨a, xs, h1, h0, h2, h3⟩ => ⟨a, xs, h1, h0, e.keep h2 h0, h3.up e⟩,
  fun n ⟨a, xs, h1, h0, h2, h3⟩ => ⟨a, xs, h1, fun z => z.elim h0 (ne_of_none h2 n), h2, h3.weak n⟩, fun ⟨a, xs, h1, h0, h2, h3⟩ => ⟨a, xs, h1, fun z => h0 (.inl z), h2, h3.drop⟩⟩
section
variable {W : Wd} {Γ : Gam} {K : PySem.W.Frag} {ta tb te tc : TE} {tl tr : TA} {tt tu : TT} {T U A C P : Typ} {Ts Us : List Typ} {r : R2} {φ ψ : Bool → Prop} {i : Nat} {ds es : List PyData} {d e : PyData}
theorem tupT_data {M B : Addr → Prop} {v : V} {H : Hp} (h : (tupT K (ds.map (dt K))).p M B v H) : (dt K (.tuple ds)).p M B v H := by
  obtain ⟨a, xs, rfl, h2, h3⟩ := h
  exact .tup h2 h3.data
theorem data_tupT {M B : Addr → Prop} {v : V} {H : Hp} (h : (dt K (.tuple ds)).p M B v H) : (tupT K (ds.map (dt K))).p M B v H := by
  cases h with
  | tup h2 h3 => exact ⟨_, _, rfl, h2, TysV.ofData h3⟩
theorem lstT_data {M B : Addr → Prop} {v : V} {H : Hp} (h : (lstT (ds.map (dt K))).p M B v H) : (dt K (.list ds)).p M B v H := by
  obtain ⟨a, xs, rfl, h0, h2, h3⟩ := h
  exact .lst h2 h0 h3.data
theorem data_lstT {M B : Addr → Prop} {v : V} {H : Hp} (h : (dt K (.list ds)).p M B v H) : (lstT (ds.map (dt K))).p M B v H := by
  cases h with
  | lst h2 h0 h3 => exact ⟨_, _, rfl, h0, h2, TysV.ofData h3⟩
/-! ### values -/
theorem Ty.sub (h : Ty W Γ te T) (k : ∀ v H, Cxt W H → T.at W v H → U.at W v H) : Ty W Γ te U := fun σ H c g Q q => h σ H c g Q fun v H1 e z => q v H1 e (k v H1 (c.up e) z)
theorem ty_var (h : Γ[i]? = some (some T)) : Ty W Γ (tVar i) T := fun σ H c g Q q => by
  obtain ⟨v, h1, h2⟩ := g.get h
  exact ⟨v, h1, q v H (Ex.refl W.B H) h2⟩
theorem ty_int {n : Int} : Ty W Γ (tC (.int n)) (dt K (.int n)) := fun σ H c g Q q => q _ H (Ex.refl W.B H) (.int n)
theorem ty_bl {b : Bool} : Ty W Γ (tC (.bl b)) (dt K (.bool b)) := fun σ H c g Q q => q _ H (Ex.refl W.B H) (.bl b)
theorem ty_non : Ty W Γ (tC .non) (dt K .none) := fun σ H c g Q q => q _ H (Ex.refl W.B H) .non
theorem ty_str {x : Str} : Ty W Γ (tC (.str x)) (dt K (.str x)) := fun σ H c g Q q => q _ H (Ex.refl W.B H) (.str x)
/-- a constant value: a class, a built-in class -/
theorem ty_c {v : V} : Ty W Γ (tC v) (isV v) := fun σ H c g Q q => q _ H (Ex.refl W.B H) rfl
theorem ty_op (ha : Ty W Γ ta A) (hb : Ty W Γ tb C) (ho : OpT W r A C P) : Ty W Γ (tOp r ta tb) P := fun σ H c g Q q =>
  ha σ H c g _ fun u H1 e1 h1 => hb σ H1 (c.up e1) (g.up e1.toW) _ fun v H2 e2 h2 => ho u v H2 (c.up (e1.trans e2)) (A.up e2.toW h1) h2 Q fun w H3 e3 h3 => q w H3 (e1.trans (e2.trans e3)) h3
theorem ty_un {r : V → Hp → VK → Prop} (ha : Ty W Γ ta A) (ho : UnT W r A P) : Ty W Γ (tUn r ta) P := fun σ H c g Q q =>
  ha σ H c g _ fun u H1 e1 h1 => ho u H1 (c.up e1) h1 Q fun w H3 e3 h3 => q w H3 (e1.trans e3) h3
theorem ty_cb {r : List V → Hp → VK → Prop} (ha : TyA W Γ tl Ts) (ho : CbT W r Ts P) : Ty W Γ (tCB r tl) P := fun σ H c g Q q =>
  ha σ H c g _ fun us H1 e1 h1 => ho us H1 (c.up e1) h1 Q fun w H3 e3 h3 => q w H3 (e1.trans e3) h3
theorem tyl_cb {r : List V → Hp → VK → Prop} (ha : TyA W Γ tl Ts) (ho : CbL W r Ts Us) : TyL W Γ (tCB r tl) Us := fun σ H c g Q q =>
  ha σ H c g _ fun us H1 e1 h1 => ho us H1 (c.up e1) h1 Q fun p xs H3 e3 hp h3 h4 => q p xs H3 (e1.trans e3) (e1.free hp) h3 h4
theorem ty_if (hc : Tt W Γ tt φ) (h1 : φ true → Ty W Γ ta T) (h2 : φ false → Ty W Γ tb T) : Ty W Γ (tIf tt ta tb) T := fun σ H c g Q q =>
  hc σ H c g _ fun b H1 e1 hb => by
    cases b with
    | true => rw [if_pos rfl]; exact h1 hb σ H1 (c.up e1) (g.up e1.toW) Q fun v H2 e2 h => q v H2 (e1.trans e2) h
    | false => rw [if_neg Bool.false_ne_true]; exact h2 hb σ H1 (c.up e1) (g.up e1.toW) Q fun v H2 e2 h => q v H2 (e1.trans e2) h
theorem ty_andV {a b : Bool} (h1 : Ty W Γ ta (dt K (.bool a))) (h2 : a = true → Ty W Γ tb (dt K (.bool b))) : Ty W Γ (tAndV ta tb) (dt K (.bool (a && b))) := fun σ H c g Q q =>
  h1 σ H c g _ fun v H1 e1 hv => by
    cases hv
    refine ⟨a, rfl, ?_⟩
    cases a with
    | true => rw [if_pos rfl]; exact h2 rfl σ H1 (c.up e1) (g.up e1.toW) Q fun v H2 e2 h => q v H2 (e1.trans e2) (by rw [Bool.true_and]; exact h)
    | false => rw [if_neg Bool.false_ne_true]; exact q _ H1 e1 (.bl _)
theorem ty_orV {a b : Bool} (h1 : Ty W Γ ta (dt K (.bool a))) (h2 : a = false → Ty W Γ tb (dt K (.bool b))) : Ty W Γ (tOrV ta tb) (dt K (.bool (a || b))) := fun σ H c g Q q =>
  h1 σ H c g _ fun v H1 e1 hv => by
    cases hv
    refine ⟨a, rfl, ?_⟩
    cases a with
    | true => rw [if_pos rfl]; exact q _ H1 e1 (.bl _)
    | false => rw [if_neg Bool.false_ne_true]; exact h2 rfl σ H1 (c.up e1) (g.up e1.toW) Q fun v H2 e2 h => q v H2 (e1.trans e2) (by rw [Bool.false_or]; exact h)
theorem ty_notV {a : Bool} (h1 : Ty W Γ ta (dt K (.bool a))) : Ty W Γ (tNotV ta) (dt K (.bool (!a))) := fun σ H c g Q q =>
  h1 σ H c g _ fun v H1 e1 hv => by
    cases hv
    exact ⟨a, rfl, q _ H1 e1 (.bl _)⟩
theorem Ty.is (h : Ty W Γ te (dt K d)) (k : d = e) : Ty W Γ te (dt K e) := k ▸ h
/-! ### tests -/
theorem Tt.sub (h : Tt W Γ tt φ) (k : ∀ b, φ b → ψ b) : Tt W Γ tt ψ := fun σ H c g Q q => h σ H c g Q fun b H1 e z => q b H1 e (k b z)
theorem tt_B {b : Bool} (h : Ty W Γ te (dt K (.bool b))) : Tt W Γ (tB te) (· = b) := fun σ H c g Q q => h σ H c g _ fun v H1 e hv => by
  cases hv
  exact ⟨b, rfl, q b H1 e rfl⟩
theorem tt_test {b : Bool} (h : Ty W Γ te (dt K (.bool b))) : Tt W Γ (tTest te) (· = b) := fun σ H c g Q q => h σ H c g _ fun v H1 e hv => by
  cases hv
  exact ⟨b, rfl, q b H1 e rfl⟩
/-- a truth value of which something is known -/
def boT (K : PySem.W.Frag) (φ : Bool → Prop) : Typ := exT fun b : Bool => gd (φ b) (dt K (.bool b))
theorem tt_BE (h : Ty W Γ te (boT K φ)) : Tt W Γ (tB te) φ := fun σ H c g Q q => h σ H c g _ fun v H1 e ⟨b, h1, h2⟩ => by
  cases h2
  exact ⟨b, rfl, q b H1 e h1⟩
theorem tt_testE (h : Ty W Γ te (boT K φ)) : Tt W Γ (tTest te) φ := fun σ H c g Q q => h σ H c g _ fun v H1 e ⟨b, h1, h2⟩ => by
  cases h2
  exact ⟨b, rfl, q b H1 e h1⟩
theorem tt_and (h1 : Tt W Γ tt φ) (h2 : φ true → Tt W Γ tu ψ) : Tt W Γ (tAnd tt tu) (fun b => (b = false ∧ φ false) ∨ (φ true ∧ ψ b)) := fun σ H c g Q q =>
  h1 σ H c g _ fun b H1 e1 hb => by
    cases b with
    | true => rw [if_pos rfl]; exact h2 hb σ H1 (c.up e1) (g.up e1.toW) Q fun b H2 e2 h => q b H2 (e1.trans e2) (.inr ⟨hb, h⟩)
    | false => rw [if_neg Bool.false_ne_true]; exact q false H1 e1 (.inl ⟨rfl, hb⟩)
theorem tt_or (h1 : Tt W Γ tt φ) (h2 : φ false → Tt W Γ tu ψ) : Tt W Γ (tOr tt tu) (fun b => (b = true ∧ φ true) ∨ (φ false ∧ ψ b)) := fun σ H c g Q q =>
  h1 σ H c g _ fun b H1 e1 hb => by
    cases b with
    | true => rw [if_pos rfl]; exact q true H1 e1 (.inl ⟨rfl, hb⟩)
    | false => rw [if_neg Bool.false_ne_true]; exact h2 hb σ H1 (c.up e1) (g.up e1.toW) Q fun b H2 e2 h => q b H2 (e1.trans e2) (.inr ⟨hb, h⟩)
theorem tt_andB {a b : Bool} (h1 : Tt W Γ tt (· = a)) (h2 : a = true → Tt W Γ tu (· = b)) : Tt W Γ (tAnd tt tu) (· = (a && b)) :=
  (tt_and h1 fun z => h2 z.symm).sub fun c z => by
    rcases z with ⟨rfl, z⟩ | ⟨z, rfl⟩
    · rw [← z]; rfl
    · rw [← z]; rfl
theorem tt_orB {a b : Bool} (h1 : Tt W Γ tt (· = a)) (h2 : a = false → Tt W Γ tu (· = b)) : Tt W Γ (tOr tt tu) (· = (a || b)) :=
  (tt_or h1 fun z => h2 z.symm).sub fun c z => by
    rcases z with ⟨rfl, z⟩ | ⟨z, rfl⟩
    · rw [← z]; rfl
    · rw [← z]; rfl
theorem tt_not (h1 : Tt W Γ tt φ) : Tt W Γ (tNot tt) (fun b => φ (!b)) := fun σ H c g Q q => h1 σ H c g _ fun b H1 e1 hb => q (!b) H1 e1 (by show φ (!!b); rw [Bool.not_not]; exact hb)
theorem tt_notB {a : Bool} (h1 : Tt W Γ tt (· = a)) : Tt W Γ (tNot tt) (· = !a) := (tt_not h1).sub fun b z => by rw [← z, Bool.not_not]
theorem Tt.is {a b : Bool} (h : Tt W Γ tt (· = a)) (k : a = b) : Tt W Γ tt (· = b) := k ▸ h
/-! ### arguments, displays -/
theorem tya_nil : TyA W Γ tNil [] := fun σ H c g Q q => q [] H (Ex.refl W.B H) True.intro
theorem tya_cons (h : Ty W Γ te T) (hr : TyA W Γ tr Ts) : TyA W Γ (tCons te tr) (T :: Ts) := fun σ H c g Q q =>
  h σ H c g _ fun v H1 e1 hv => hr σ H1 (c.up e1) (g.up e1.toW) _ fun vs H2 e2 hvs => q (v :: vs) H2 (e1.trans e2) ⟨T.up e2.toW hv, hvs⟩
theorem TyA.data (h : TyA W Γ tl Ts) (k : Ts = ds.map (dt K)) : TyA W Γ tl (ds.map (dt K)) := k ▸ h
theorem sz_le {n : Nat} (h : n ≤ 1000000) : n ≤ sizeLine := Nat.le_trans h (by decide)
theorem sz_lt {n : Nat} (h : n < 1000000) : n < sizeLine := Nat.lt_of_lt_of_le h (by decide)
theorem ty_tup (h : TyA W Γ tl Ts) (hz : Ts.length ≤ 1000000) : Ty W Γ (tTup tl) (tupT K Ts) := fun σ H c g Q q =>
  h σ H c g _ fun vs H1 e1 hv => ⟨by rw [hv.length]; exact sz_le hz, fun p hp => q _ _ (e1.trans (Ex.new hp)) ⟨p, vs, rfl, SqT.of upd_same, hv.up (Ex.new hp).toW⟩⟩
theorem tyl_lst (h : TyA W Γ tl Ts) (hz : Ts.length ≤ 1000000) : TyL W Γ (tLst tl) Ts := fun σ H c g Q q =>
  h σ H c g _ fun vs H1 e1 hv => ⟨by rw [hv.length]; exact sz_le hz, fun p hp => q p vs _ (e1.trans (Ex.new hp)) (e1.free hp) upd_same (hv.up (Ex.new hp).toW)⟩
theorem TyL.ty (h : TyL W Γ te Ts) : Ty W Γ te (lstT Ts) := fun σ H c g Q q => h σ H c g Q fun p xs H1 e hp h1 h2 => q _ H1 e ⟨p, xs, rfl, c.nm hp, h1, h2⟩
theorem TyL.data (h : TyL W Γ te (ds.map (dt K))) : Ty W Γ te (dt K (.list ds)) := h.ty.sub fun _ _ _ => lstT_data
theorem Ty.tup (h : Ty W Γ te (tupT K (ds.map (dt K)))) : Ty W Γ te (dt K (.tuple ds)) := h.sub fun _ _ _ => tupT_data
theorem ty_tupD (h : TyA W Γ tl (ds.map (dt K))) (hz : ds.length ≤ 1000000) : Ty W Γ (tTup tl) (dt K (.tuple ds)) := (ty_tup h (by rw [List.length_map]; exact hz)).tup
theorem ty_lstD (h : TyA W Γ tl (ds.map (dt K))) (hz : ds.length ≤ 1000000) : Ty W Γ (tLst tl) (dt K (.list ds)) := (tyl_lst h (by rw [List.length_map]; exact hz)).data
/-! ### statements -/
variable {ts tu' : TS} {N N' : Sx → Hp → Prop} {R : V → Hp → Prop} {Bk Ct : Sx → Hp → Prop} {W' : Wd}
theorem tys_seq {tw : TS} (h1 : TyS W Γ ts N R Bk Ct) (h2 : ∀ σ H, N σ H → ∃ (W' : Wd) (Γ' : Gam), W.Like W' ∧ nE W' Γ' σ H ∧ TyS W' Γ' tw N' R Bk Ct) : TyS W Γ (tSeq ts tw) N' R Bk Ct := fun σ H c g D dn dr db dc =>
  h1 σ H c g { D with nx := tw D } (fun σ' H' e n => by
    obtain ⟨W', Γ', l, g', k⟩ := h2 σ' H' n
    exact k σ' H' g'.1 g'.2 D (fun σ2 H2 e2 => dn σ2 H2 (e.trans (l.exm e2))) dr (fun σ2 H2 e2 => db σ2 H2 (e.trans (l.exm e2))) (fun σ2 H2 e2 => dc σ2 H2 (e.trans (l.exm e2)))) dr db dc
theorem tys_seqE {Γ' : Gam} {tw : TS} (h1 : TyS W Γ ts (nE W' Γ') R Bk Ct) (h2 : TyS W' Γ' tw N' R Bk Ct) (l : W.Like W' := by exact ⟨rfl, rfl⟩) : TyS W Γ (tSeq ts tw) N' R Bk Ct := tys_seq h1 fun σ H n => ⟨W', Γ', l, n, h2⟩
theorem tys_seqX {α : Type} {W' : α → Wd} {Γ' : α → Gam} {tw : TS} (h1 : TyS W Γ ts (fun σ H => ∃ x, nE (W' x) (Γ' x) σ H) R Bk Ct) (h2 : ∀ x, TyS (W' x) (Γ' x) tw N' R Bk Ct) (l : ∀ x, W.Like (W' x) := by exact fun _ => ⟨rfl, rfl⟩) : TyS W Γ (tSeq ts tw) N' R Bk Ct :=
  tys_seq h1 fun σ H ⟨x, n⟩ => ⟨W' x, Γ' x, l x, n, h2 x⟩
theorem TyS.imp (h : TyS W Γ ts N R Bk Ct) (k : ∀ σ H, N σ H → N' σ H) : TyS W Γ ts N' R Bk Ct := fun σ H c g D dn dr db dc => h σ H c g D (fun σ' H' e n => dn σ' H' e (k σ' H' n)) dr db dc
theorem TyS.never (h : TyS W Γ ts noN R Bk Ct) : TyS W Γ ts N R Bk Ct := h.imp fun _ _ z => z.elim
theorem TyS.less {Δ : Gam} (h : TyS W Γ ts N R Bk Ct) (l : Less Γ Δ) : TyS W Δ ts N R Bk Ct := fun σ H c g => h σ H c (EnvL.less l g)
theorem tys_next : TyS W Γ tNext (nE W Γ) R Bk Ct := fun σ H c g D dn _ _ _ => dn σ H (Exm.refl _ _ _) ⟨c, g⟩
theorem tys_cont : TyS W Γ tCont noN R Bk (nE W Γ) := fun σ H c g D _ _ _ dc => dc σ H (Exm.refl _ _ _) ⟨c, g⟩
theorem tys_break : TyS W Γ tBreak noN R (nE W Γ) Ct := fun σ H c g D _ _ db _ => db σ H (Exm.refl _ _ _) ⟨c, g⟩
theorem tys_set (h : Ty W Γ te T) : TyS W Γ (tAsg te (gName i)) (nE W (Γ.set i (some T))) R Bk Ct := fun σ H c g D dn _ _ _ =>
  h σ H c g _ fun v H1 e hv => dn _ H1 e.toW ⟨c.up e, EnvL.set hv (g.up e.toW)⟩
theorem tys_setX {α : Type} {A : α → Typ} (h : Ty W Γ te (exT A)) : TyS W Γ (tAsg te (gName i)) (fun σ H => ∃ x, nE W (Γ.set i (some (A x))) σ H) R Bk Ct := fun σ H c g D dn _ _ _ =>
  h σ H c g _ fun v H1 e ⟨x, hv⟩ => dn _ H1 e.toW ⟨x, c.up e, EnvL.set hv (g.up e.toW)⟩
theorem tys_ret (h : Ty W Γ te T) (k : ∀ v H, Cxt W H → T.at W v H → R v H) : TyS W Γ (tRet te) noN R Bk Ct := fun σ H c g D _ dr _ _ => h σ H c g _ fun v H1 e hv => dr v H1 (k v H1 (c.up e) hv)
theorem tys_drop (h : Ty W Γ te T) : TyS W Γ (tDrop te) (nE W Γ) R Bk Ct := fun σ H c g D dn _ _ _ => h σ H c g _ fun v H1 e _ => dn σ H1 e.toW ⟨c.up e, g.up e.toW⟩
theorem tys_if (hc : Tt W Γ tt φ) (h1 : φ true → TyS W Γ ts N R Bk Ct) (h2 : φ false → TyS W Γ tu' N R Bk Ct) : TyS W Γ (tIfS tt ts tu') N R Bk Ct := fun σ H c g D dn dr db dc =>
  hc σ H c g _ fun b H1 e hb => by
    have f := e.toW
    cases b with
    | true => rw [if_pos rfl]; exact h1 hb σ H1 (c.up e) (g.up f) D (fun σ2 H2 e2 => dn σ2 H2 (f.trans e2)) dr (fun σ2 H2 e2 => db σ2 H2 (f.trans e2)) (fun σ2 H2 e2 => dc σ2 H2 (f.trans e2))
    | false => rw [if_neg Bool.false_ne_true]; exact h2 hb σ H1 (c.up e) (g.up f) D (fun σ2 H2 e2 => dn σ2 H2 (f.trans e2)) dr (fun σ2 H2 e2 => db σ2 H2 (f.trans e2)) (fun σ2 H2 e2 => dc σ2 H2 (f.trans e2))
/-- an if that returns, then the rest -/
theorem tys_guard {tw : TS} (hc : Tt W Γ tt φ) (h1 : φ true → TyS W Γ ts noN R Bk Ct) (h2 : φ false → TyS W Γ tw N R Bk Ct) : TyS W Γ (tSeq (tIfS tt ts tNext) tw) N R Bk Ct := fun σ H c g D dn dr db dc =>
  hc σ H c g _ fun b H1 e hb => by
    have f := e.toW
    cases b with
    | true => rw [if_pos rfl]; exact h1 hb σ H1 (c.up e) (g.up f) _ (fun σ2 H2 _ z => z.elim) dr (fun σ2 H2 e2 => db σ2 H2 (f.trans e2)) (fun σ2 H2 e2 => dc σ2 H2 (f.trans e2))
    | false => rw [if_neg Bool.false_ne_true]; exact h2 hb σ H1 (c.up e) (g.up f) D (fun σ2 H2 e2 => dn σ2 H2 (f.trans e2)) dr (fun σ2 H2 e2 => db σ2 H2 (f.trans e2)) (fun σ2 H2 e2 => dc σ2 H2 (f.trans e2))
end
/-! ### promises -/
/-- for every x with C: arguments of the types A, a value of the type R; the boxes of B may turn -/
def spT {α : Type} (C : α → Prop) (A : α → List Typ) (R : α → Typ) : Sp := fun vs H Q _ => ∃ (M B : Addr → Prop) (x : α), (∀ a, B a → M a) ∧ (∀ a, B a → BoxAt H a) ∧ (∀ a, M a → H a ≠ none) ∧ C x ∧ TysV M B (A x) vs H ∧ ∀ v H', Ex B H H' → (R x).p M B v H' → Q v H'
section
variable {W : Wd} {Γ : Gam} {tl : TA} {α : Type} {C : α → Prop} {A : α → List Typ} {R : α → Typ} {E : XK}
theorem ty_call (x : α) (hC : C x) (h : TyA W Γ tl (A x)) : Ty W Γ (tCall (spT C A R) [] E tl) (R x) := fun σ H c g Q q =>
  h σ H c g _ fun vs H1 e1 hv => ⟨W.M, W.B, x, W.sub, (c.up e1).box, (c.up e1).al, hC, by rw [List.append_nil]; exact hv, fun v H2 e2 h2 => q v H2 (e1.trans e2) h2⟩
end
/-- a def's first world -/
def Wd.base (M B : Addr → Prop) (H : Hp) (s : ∀ a, B a → M a) : Wd := ⟨M, B, H, fun _ => True, s, fun _ _ => True.intro⟩
section
variable {P : Program} {w : World} {K : PySem.W.Frag} {mg : Str → Option Value} {base : Heap}
theorem okN {x qual : Str} {st : Stmt} {f : Addr} {fd : FuncData} {N ps : List Str} {k : Nat} {sp : Sp} (F : Fun K x qual st f fd) (S : FnScope N ps (defScope st)) (len : ∀ vs H Q E, sp vs H Q E → vs.length = ps.length)
    (hbody : ∀ (cdv : Value) (A : Around) (outer : List Env) (s : Shared) (H : Hp) (vs : List V) (Q : VK) (E : XK), Room k (A.deeper (envOfC qual (defScope st) s.heap.objs.size f cdv)) → sp vs H Q E →
      ∃ t, PSs (cxOf (L2.CX P w) P w K mg base N qual (defScope st) f cdv A outer s H E).nox (defBody st) t ∧ t { nx := fun _ H' => Q .non H', rt := Q } (L2.start N vs) H) : FnOk P w K mg base (L2.CX P w) (k + 1) f fd ps sp :=
  F.okX S len fun cdv A outer s H vs Q E hr hs => by
    obtain ⟨t, h, q⟩ := hbody cdv A outer s H vs Q E hr hs
    exact ⟨t, h.nox, q⟩
theorem env_start {M B : Addr → Prop} {H : Hp} : ∀ {Ts : List Typ} {vs : List V}, TysV M B Ts vs H → ∀ n, EnvL M B (Ts.map some ++ List.replicate n none) (vs.map some ++ List.replicate n none) H
  | [], [], _, n => by
    induction n with
    | zero => exact True.intro
    | succ n ih => exact ih
  | _ :: _, _ :: _, h, n => ⟨h.1, env_start h.2 n⟩
  | [], _ :: _, h, _ => h.elim
  | _ :: _, [], h, _ => h.elim
/-- what a def hands back -/
def rW (W : Wd) (T : Typ) : V → Hp → Prop := fun v H => Ex W.B W.H0 H ∧ T.at W v H
/-- a def by its typed body -/
theorem fn_ty {x qual : Str} {st : Stmt} {f : Addr} {fd : FuncData} {N ps : List Str} {k : Nat} {α : Type} {C : α → Prop} {A : α → List Typ} {R : α → Typ} (F : Fun K x qual st f fd) (S : FnScope N ps (defScope st))
    (len : ∀ x, C x → (A x).length = ps.length)
    (hbody : ∀ (cdv : Value) (Ar : Around) (outer : List Env) (s : Shared) (H : Hp) (E : XK), Room k (Ar.deeper (envOfC qual (defScope st) s.heap.objs.size f cdv)) →
      ∃ t, PSs (cxOf (L2.CX P w) P w K mg base N qual (defScope st) f cdv Ar outer s H E).nox (defBody st) t ∧ ∀ (W : Wd) (x : α), C x → TyS W ((A x).map some ++ List.replicate (N.length - ps.length) none) t (fun _ H' => rW W (R x) .non H') (rW W (R x)) noN noN) :
    FnOk P w K mg base (L2.CX P w) (k + 1) f fd ps (spT C A R) := by
  refine okN F S (fun vs H Q E h => ?_) fun cdv Ar outer s H vs Q E hr h => ?_
  · obtain ⟨M, B, x, _, _, _, hC, h, _⟩ := h
    rw [h.length, len x hC]
  · obtain ⟨M, B, x, hs, hb, ha, hC, h, q⟩ := h
    obtain ⟨t, ht, k⟩ := hbody cdv Ar outer s H E hr
    refine ⟨t, ht, k (Wd.base M B H hs) x hC (L2.start N vs) H ⟨hb, ha, Ex.refl B H, True.intro⟩ ?_ _ (fun σ' H' _ n => q _ _ n.1 n.2) (fun v H' n => q _ _ n.1 n.2) (fun _ _ _ z => z.elim) (fun _ _ _ z => z.elim)⟩
    unfold L2.start
    have e : vs.length = ps.length := by rw [h.length, len x hC]
    rw [e]
    exact env_start h _
theorem tys_retW {W : Wd} {Γ : Gam} {te : TE} {T : Typ} {Bk Ct : Sx → Hp → Prop} (h : Ty W Γ te T) : TyS W Γ (tRet te) noN (rW W T) Bk Ct := tys_ret h fun v H c k => ⟨c.ex, k⟩
end
end Ew

end
section
set_option Elab.async false
set_option linter.all false
set_option maxRecDepth 100000
set_option maxHeartbeats 1000000
/-! EwC: operators, built-in calls, walks, comprehensions, loops, by types. -/
namespace Ew
open PySem PySem.Spec PyProof.Rows L2
/-! ### what may be one of several -/
theorem CallR.or {X : Cx} {f : Value} {r r' : List V → Hp → VK → Prop} (h : CallR X f r) (h' : CallR X f r') : CallR X f (fun xs H Q => r xs H Q ∨ r' xs H Q) := by
  intro pins s σ H xs us Q I rx q
  rcases q with q | q
  · exact h pins s σ H xs us Q I rx q
  · exact h' pins s σ H xs us Q I rx q
abbrev rAddI : R2 := rI0 fun i j => .int (i + j)
abbrev rAddStr : R2 := fun x y H Q => ∃ i j, x = .str i ∧ y = .str j ∧ i.length + j.length ≤ sizeLine ∧ Q (.str (i ++ j)) H
/-- a + b: ints, tuples, lists, texts -/
def rAddA (K : PySem.W.Frag) : R2 := fun x y H Q => rAddI x y H Q ∨ rCatA K x y H Q ∨ rCat x y H Q ∨ rAddStr x y H Q
theorem op_addA {X : Cx} : OpR X (binaryOp .Add) (rAddA X.K) := op_add.or (op_catA.or (op_cat.or op_add_str))
/-- a * b: ints (below 2 ^ 64 one of them; together below a million bits) -/
def rMulA : R2 := fun x y H Q => rI CMul (fun i j => .int (i * j)) x y H Q ∨ rI CMulW (fun i j => .int (i * j)) x y H Q
theorem op_mulA {X : Cx} : OpR X (binaryOp .Mult) rMulA := op_mul.or op_mulW
/-- a // b -/
def rDivA : R2 := fun x y H Q => rI CDivW (fun i j => .int (i / j)) x y H Q ∨ rI CDivN (fun i j => .int (i.fdiv j)) x y H Q
theorem op_divA {X : Cx} : OpR X (binaryOp .FloorDiv) rDivA := op_fdivW.or op_fdivN
/-- == at any depth -/
def rEqA (K : PySem.W.Frag) : R2 := fun x y H Q => rEq x y H Q ∨ rEqD K x y H Q
theorem op_eqA {X : Cx} (hu : X.A.units + 64 < cLine) : OpR X (compareOp .Eq) (rEqA X.K) := op_eq.or (op_eqD hu)
def rNeA (K : PySem.W.Frag) : R2 := fun x y H Q => rNe x y H Q ∨ rNeD K x y H Q
theorem op_neA {X : Cx} (hu : X.A.units + 64 < cLine) : OpR X (compareOp .NotEq) (rNeA X.K) := op_ne.or (op_neD hu)
/-- len -/
def rLen (K : PySem.W.Frag) : List V → Hp → VK → Prop := fun xs H Q => ∃ x n, xs = [x] ∧ LenV K x H n ∧ Q (.int n) H
def rLenD : List V → Hp → VK → Prop := fun xs H Q => ∃ d kvs, xs = [.ref d] ∧ H d = some (.dK kvs) ∧ Q (.int (kvs.length : Nat)) H

section
variable {W : Wd} {Γ : Gam} {K : PySem.W.Frag} {T U A C P : Typ} {Ts Us : List Typ} {i j : Int} {ds es : List PyData} {d e : PyData} {B : Addr → Prop}
theorem opt_I0 {g : Int → Int → V} {r : PyData} (h : ∀ M H, Rp M K H (g i j) r) : OpT W (rI0 g) (dt K (.int i)) (dt K (.int j)) (dt K r) := fun u v H c hu hv Q q => by
  cases hu
  cases hv
  exact ⟨i, j, rfl, rfl, q _ H (Ex.refl W.B H) (h _ _)⟩
theorem opt_I {D : Int → Int → Prop} {g : Int → Int → V} {r : PyData} (hd : D i j) (h : ∀ M H, Rp M K H (g i j) r) : OpT W (rI D g) (dt K (.int i)) (dt K (.int j)) (dt K r) := fun u v H c hu hv Q q => by
  cases hu
  cases hv
  exact ⟨i, j, rfl, rfl, hd, q _ H (Ex.refl W.B H) (h _ _)⟩
theorem opt_add : OpT W (rAddA K) (dt K (.int i)) (dt K (.int j)) (dt K (.int (i + j))) := fun u v H c hu hv Q q => .inl (opt_I0 (fun _ _ => .int _) u v H c hu hv Q q)
theorem opt_sub : OpT W (rI0 fun i j => .int (i - j)) (dt K (.int i)) (dt K (.int j)) (dt K (.int (i - j))) := opt_I0 fun _ _ => .int _
theorem opt_mul (h : CMul i j) : OpT W rMulA (dt K (.int i)) (dt K (.int j)) (dt K (.int (i * j))) := fun u v H c hu hv Q q => .inl (opt_I h (fun _ _ => .int _) u v H c hu hv Q q)
theorem opt_mulW (h : CMulW i j) : OpT W rMulA (dt K (.int i)) (dt K (.int j)) (dt K (.int (i * j))) := fun u v H c hu hv Q q => .inr (opt_I h (fun _ _ => .int _) u v H c hu hv Q q)
theorem opt_div (h : CDivW i j) : OpT W rDivA (dt K (.int i)) (dt K (.int j)) (dt K (.int (i / j))) := fun u v H c hu hv Q q => .inl (opt_I h (fun _ _ => .int _) u v H c hu hv Q q)
theorem opt_mod (h : 0 < j) : OpT W (rI (fun _ j => 0 < j) fun i j => .int (i % j)) (dt K (.int i)) (dt K (.int j)) (dt K (.int (i % j))) := opt_I h fun _ _ => .int _
theorem opt_pow (h : CPow i j) : OpT W (rI CPow fun i j => .int (i ^ j.toNat)) (dt K (.int i)) (dt K (.int j)) (dt K (.int (i ^ j.toNat))) := opt_I h fun _ _ => .int _
theorem opt_lt : OpT W (rI0 fun i j => .bl (decide (i < j))) (dt K (.int i)) (dt K (.int j)) (dt K (.bool (decide (i < j)))) := opt_I0 fun _ _ => .bl _
theorem opt_le : OpT W (rI0 fun i j => .bl (decide (i ≤ j))) (dt K (.int i)) (dt K (.int j)) (dt K (.bool (decide (i ≤ j)))) := opt_I0 fun _ _ => .bl _
theorem opt_gt : OpT W (rI0 fun i j => .bl (decide (j < i))) (dt K (.int i)) (dt K (.int j)) (dt K (.bool (decide (j < i)))) := opt_I0 fun _ _ => .bl _
theorem opt_ge : OpT W (rI0 fun i j => .bl (decide (j ≤ i))) (dt K (.int i)) (dt K (.int j)) (dt K (.bool (decide (j ≤ i)))) := opt_I0 fun _ _ => .bl _
theorem unt_neg : UnT W (rU fun i => .int (-i)) (dt K (.int i)) (dt K (.int (-i))) := fun u H c hu Q q => by
  cases hu
  exact ⟨i, rfl, q _ H (Ex.refl W.B H) (.int _)⟩
theorem opt_catT (hz : ds.length + es.length ≤ 1000000) : OpT W (rAddA K) (dt K (.tuple ds)) (dt K (.tuple es)) (dt K (.tuple (ds ++ es))) := fun u v H c hu hv Q q => by
  cases hu with
  | @tup a xs _ h1 h2 =>
    cases hv with
    | @tup b ys _ h3 h4 =>
      refine .inr (.inl ⟨a, b, xs, ys, rfl, rfl, h1, h3, by rw [h2.length, h4.length]; exact sz_le hz, fun e => ?_, fun _ e => ?_, fun _ _ p hp => ?_⟩)
      · subst e
        cases h2
        exact q _ H (Ex.refl W.B H) (.tup h3 h4)
      · subst e
        cases h4
        rw [List.append_nil] at q
        exact q _ H (Ex.refl W.B H) (.tup h1 h2)
      · exact q _ _ (Ex.new hp) (.tup (SqT.of upd_same) (RpA.up (Ex.new (B := W.B) hp).toW (h2.append h4)))
theorem opt_catL (hz : Ts.length + Us.length ≤ 1000000) : OpT W (rAddA K) (lstT Ts) (lstT Us) (lstT (Ts ++ Us)) := fun u v H c hu hv Q q => by
  obtain ⟨a, xs, rfl, ha, h1, h2⟩ := hu
  obtain ⟨b, ys, rfl, hb, h3, h4⟩ := hv
  exact .inr (.inr (.inl ⟨a, b, xs, ys, rfl, rfl, h1, h3, by rw [h2.length, h4.length]; exact sz_le hz, fun p hp => q _ _ (Ex.new hp) ⟨p, xs ++ ys, rfl, c.nm hp, upd_same, (h2.append h4).up (Ex.new (B := W.B) hp).toW⟩⟩))
theorem opt_catS {x y : Str} (hz : x.length + y.length ≤ 1000000) : OpT W (rAddA K) (dt K (.str x)) (dt K (.str y)) (dt K (.str (x ++ y))) := fun u v H c hu hv Q q => by
  cases hu
  cases hv
  exact .inr (.inr (.inr ⟨x, y, rfl, rfl, sz_le hz, q _ H (Ex.refl W.B H) (.str _)⟩))
/-! ### == -/
mutual
theorem Rp.dp {M : Addr → Prop} {H : Hp} : ∀ {v : V} {d : PyData}, Rp M K H v d → d.canLay0 = true → Dp K H v d
  | _, _, .non, _ => .non
  | _, _, .bl b, _ => .bl b
  | _, _, .int i, _ => .int i
  | _, _, .str x, _ => .str x
  | _, _, .lst h _ r, z => .lst (SqL.of h) (RpA.dp r (by simpa [PyData.canLay0] using z))
  | _, _, .tup h r, z => .tup h (RpA.dp r (by simpa [PyData.canLay0] using z))
  | _, _, .dic _ _, z => by simp [PyData.canLay0] at z
theorem RpA.dp {M : Addr → Prop} {H : Hp} : ∀ {v : List V} {d : List PyData}, RpA M K H v d → PyData.canLayAll0 d = true → DpAll K H v d
  | _, _, .nil, _ => .nil
  | _, _, .cons h r, z => by
    have z' := Bool.and_eq_true_iff.mp (show (PyData.canLay0 _ && PyData.canLayAll0 _) = true by simpa [PyData.canLayAll0] using z)
    exact .cons (Rp.dp h z'.1) (RpA.dp r z'.2)
end
theorem opt_eqD (hd : SeqAt.shaped d = true) (he : SeqAt.shaped e = true) : OpT W (rEqA K) (dt K d) (dt K e) (dt K (.bool (PyData.eqv d e))) := fun u v H c hu hv Q q =>
  .inr ⟨d, e, Rp.dp hu (SeqAt.canLay_of_shaped hd), Rp.dp hv (SeqAt.canLay_of_shaped he), hd, he, q _ H (Ex.refl W.B H) (.bl _)⟩
theorem opt_neD (hd : SeqAt.shaped d = true) (he : SeqAt.shaped e = true) : OpT W (rNeA K) (dt K d) (dt K e) (dt K (.bool (!PyData.eqv d e))) := fun u v H c hu hv Q q =>
  .inr ⟨d, e, Rp.dp hu (SeqAt.canLay_of_shaped hd), Rp.dp hv (SeqAt.canLay_of_shaped he), hd, he, q _ H (Ex.refl W.B H) (.bl _)⟩
theorem opt_eqI : OpT W (rEqA K) (dt K (.int i)) (dt K (.int j)) (dt K (.bool (decide (i = j)))) := fun u v H c hu hv Q q => by
  cases hu
  cases hv
  refine .inl ⟨rfl, q _ H (Ex.refl W.B H) ?_⟩
  have e : decide (V.int i = V.int j) = decide (i = j) := by rw [dec_int, Bool.beq_eq_decide_eq]
  rw [e]; exact .bl _
theorem opt_neI : OpT W (rNeA K) (dt K (.int i)) (dt K (.int j)) (dt K (.bool (!decide (i = j)))) := fun u v H c hu hv Q q => by
  cases hu
  cases hv
  refine .inl ⟨rfl, q _ H (Ex.refl W.B H) ?_⟩
  have e : decide (V.int i = V.int j) = decide (i = j) := by rw [dec_int, Bool.beq_eq_decide_eq]
  rw [e]; exact .bl _
theorem opt_eqB {a b : Bool} : OpT W (rEqA K) (dt K (.bool a)) (dt K (.bool b)) (dt K (.bool (decide (a = b)))) := fun u v H c hu hv Q q => by
  cases hu
  cases hv
  refine .inl ⟨rfl, q _ H (Ex.refl W.B H) ?_⟩
  have e : decide (V.bl a = V.bl b) = decide (a = b) := by rw [dec_bl, Bool.beq_eq_decide_eq]
  rw [e]; exact .bl _
theorem opt_neB {a b : Bool} : OpT W (rNeA K) (dt K (.bool a)) (dt K (.bool b)) (dt K (.bool (!decide (a = b)))) := fun u v H c hu hv Q q => by
  cases hu
  cases hv
  refine .inl ⟨rfl, q _ H (Ex.refl W.B H) ?_⟩
  have e : decide (V.bl a = V.bl b) = decide (a = b) := by rw [dec_bl, Bool.beq_eq_decide_eq]
  rw [e]; exact .bl _
theorem opt_eqS {a b : Str} : OpT W (rEqA K) (dt K (.str a)) (dt K (.str b)) (dt K (.bool (decide (a = b)))) := fun u v H c hu hv Q q => by
  cases hu
  cases hv
  refine .inl ⟨rfl, q _ H (Ex.refl W.B H) ?_⟩
  have e : decide (V.str a = V.str b) = decide (a = b) := by rw [dec_str, Bool.beq_eq_decide_eq]
  rw [e]; exact .bl _
theorem opt_neS {a b : Str} : OpT W (rNeA K) (dt K (.str a)) (dt K (.str b)) (dt K (.bool (!decide (a = b)))) := fun u v H c hu hv Q q => by
  cases hu
  cases hv
  refine .inl ⟨rfl, q _ H (Ex.refl W.B H) ?_⟩
  have e : decide (V.str a = V.str b) = decide (a = b) := by rw [dec_str, Bool.beq_eq_decide_eq]
  rw [e]; exact .bl _
/-! ### is -/
def isNoneD : PyData → Bool
  | .none => true
  | _ => false
theorem Rp.isN {M : Addr → Prop} {H : Hp} {v : V} (h : Rp M K H v d) : decide (v = .non) = isNoneD d := by
  cases h <;> rfl
theorem opt_isN : OpT W (fun x y H Q => y = .non ∧ Q (.bl (decide (x = .non))) H) (dt K d) (dt K .none) (dt K (.bool (isNoneD d))) := fun u v H c hu hv Q q => by
  cases hv
  exact ⟨rfl, q _ H (Ex.refl W.B H) (by rw [Rp.isN hu]; exact .bl _)⟩
theorem opt_notN : OpT W (fun x y H Q => y = .non ∧ Q (.bl (!decide (x = .non))) H) (dt K d) (dt K .none) (dt K (.bool (!isNoneD d))) := fun u v H c hu hv Q q => by
  cases hv
  exact ⟨rfl, q _ H (Ex.refl W.B H) (by rw [Rp.isN hu]; exact .bl _)⟩
theorem opt_isB {a b : Bool} : OpT W rIsB (dt K (.bool a)) (dt K (.bool b)) (dt K (.bool (decide (a = b)))) := fun u v H c hu hv Q q => by
  cases hu
  cases hv
  exact ⟨a, b, rfl, rfl, q _ H (Ex.refl W.B H) (.bl _)⟩
/-! ### items -/
theorem atI_RpA {M : Addr → Prop} {H : Hp} {xs : List V} (h : RpA M K H xs ds) (e : atI ds i = some d) : ∃ v, atI xs i = some v ∧ Rp M K H v d := by
  unfold atI at e ⊢
  rw [h.length]
  cases q : ixN ds.length i with
  | none => rw [q] at e; cases e
  | some n =>
    rw [q] at e
    exact h.getD e
theorem opt_ixT (e : atI ds i = some d) : OpT W (rIx K) (dt K (.tuple ds)) (dt K (.int i)) (dt K d) := fun u v H c hu hv Q q => by
  cases hv
  cases hu with
  | tup h r =>
    obtain ⟨w, h1, h2⟩ := atI_RpA r e
    exact .inr (.inl ⟨_, _, i, w, rfl, rfl, h, h1, q w H (Ex.refl W.B H) h2⟩)
theorem opt_ixL (e : atI ds i = some d) : OpT W (rIx K) (dt K (.list ds)) (dt K (.int i)) (dt K d) := fun u v H c hu hv Q q => by
  cases hv
  cases hu with
  | lst h _ r =>
    obtain ⟨w, h1, h2⟩ := atI_RpA r e
    exact .inl ⟨_, _, i, w, rfl, rfl, SqL.of h, h1, q w H (Ex.refl W.B H) h2⟩
theorem opt_ixLT {n : Nat} (e : Ts[n]? = some T) : OpT W (rIx K) (lstT Ts) (dt K (.int (n : Int))) T := fun u v H c hu hv Q q => by
  cases hv
  obtain ⟨a, xs, rfl, _, h1, h2⟩ := hu
  obtain ⟨w, h3, h4⟩ := h2.get e
  exact .inl ⟨_, _, (n : Int), w, rfl, rfl, SqL.of h1, atI_nat h3, q w H (Ex.refl W.B H) h4⟩
theorem opt_ixTT {n : Nat} (e : Ts[n]? = some T) : OpT W (rIx K) (tupT K Ts) (dt K (.int (n : Int))) T := fun u v H c hu hv Q q => by
  cases hv
  obtain ⟨a, xs, rfl, h1, h2⟩ := hu
  obtain ⟨w, h3, h4⟩ := h2.get e
  exact .inr (.inl ⟨_, _, (n : Int), w, rfl, rfl, h1, atI_nat h3, q w H (Ex.refl W.B H) h4⟩)
/-! ### calls -/
theorem cbt_len1 {n : Nat} (h : ∀ M H v, Rp M K H v d → LenV K v H n) : CbT W (rLen K) [dt K d] (dt K (.int n)) := fun us H c hu Q q => by
  obtain ⟨v, rfl⟩ : ∃ v, us = [v] := by
    match us, hu with
    | [v], _ => exact ⟨v, rfl⟩
  exact ⟨v, n, rfl, h _ _ _ hu.1, q _ H (Ex.refl W.B H) (.int _)⟩
theorem cbt_lenT : CbT W (rLen K) [dt K (.tuple ds)] (dt K (.int (ds.length : Nat))) := cbt_len1 fun M H v h => by
  cases h with
  | tup h r => exact .inr ⟨_, h, r.length.symm⟩
theorem cbt_lenL : CbT W (rLen K) [dt K (.list ds)] (dt K (.int (ds.length : Nat))) := cbt_len1 fun M H v h => by
  cases h with
  | lst h _ r => exact .inl ⟨_, SqL.of h, r.length.symm⟩
theorem cbt_lenS {x : Str} (hz : x.length ≤ 1000000) : CbT W (rLen K) [dt K (.str x)] (dt K (.int (x.length : Nat))) := cbt_len1 fun M H v h => by
  cases h
  exact ⟨sz_le hz, rfl⟩
theorem cbt_lenLT : CbT W (rLen K) [lstT Ts] (dt K (.int (Ts.length : Nat))) := fun us H c hu Q q => by
  match us, hu with
  | [v], hu =>
    obtain ⟨⟨a, xs, rfl, _, h1, h2⟩, _⟩ := hu
    exact ⟨_, Ts.length, rfl, .inl ⟨xs, SqL.of h1, h2.length.symm⟩, q _ H (Ex.refl W.B H) (.int _)⟩
def tyD : PyData → String
  | .none => "NoneType"
  | .bool _ => "bool"
  | .int _ => "int"
  | .str _ => "str"
  | .list _ => "list"
  | .tuple _ => "tuple"
  | .dict _ => "dict"
theorem Rp.ty {M : Addr → Prop} {H : Hp} {v : V} (h : Rp M K H v d) : TyX K H v (.type (tyD d)) := by
  cases h with
  | non => exact .base .non
  | bl b => exact .base (.bl b)
  | int i => exact .base (.int i)
  | str x => exact .base (.str x)
  | lst h _ _ => exact .base (.lst h)
  | tup h _ =>
    rcases h with (h | ⟨o, h⟩) | ⟨o, its, n, h1, h2, _⟩
    · exact .base (.tup h)
    · exact .fTuple h
    · exact .kTuple h1 h2
  | dic h _ => exact .base (.dK h)
/-- isinstance of data -/
def isD (d : PyData) (T : String) : Bool := tyD d == T || (tyD d == "bool" && T == "int")
theorem kit_all : (["NoneType", "bool", "int", "str", "list", "tuple", "dict"].all fun t => ["int", "bool", "str", "list", "tuple", "dict"].all fun T => kitB t T == some (t == T || (t == "bool" && T == "int"))) = true := by decide +kernel
theorem tyD_mem (d : PyData) : tyD d ∈ ["NoneType", "bool", "int", "str", "list", "tuple", "dict"] := match d with
  | .none => .head _
  | .bool _ => .tail _ (.head _)
  | .int _ => .tail _ (.tail _ (.head _))
  | .str _ => .tail _ (.tail _ (.tail _ (.head _)))
  | .list _ => .tail _ (.tail _ (.tail _ (.tail _ (.head _))))
  | .tuple _ => .tail _ (.tail _ (.tail _ (.tail _ (.tail _ (.head _)))))
  | .dict _ => .tail _ (.tail _ (.tail _ (.tail _ (.tail _ (.tail _ (.head _))))))
theorem kitD {T : String} (h : T ∈ ["int", "bool", "str", "list", "tuple", "dict"]) : PySem.W.kitOne K (.type (tyD d)) (.type T) = some (isD d T) :=
  kit_ty (beq_iff_eq.mp (List.all_eq_true.mp (List.all_eq_true.mp kit_all _ (tyD_mem d)) _ h))
theorem cbt_isi {T : String} (h : T ∈ ["int", "bool", "str", "list", "tuple", "dict"] := by decide) : CbT W (rIsi K) [dt K d, isV (.ty T)] (dt K (.bool (isD d T))) := fun us H c hu Q q => by
  match us, hu with
  | [v, t], hu =>
    obtain ⟨h1, h2, _⟩ := hu
    cases h2
    exact ⟨v, .ty T, _, .type T, _, rfl, .ty T, Rp.ty h1, kitD h, q _ H (Ex.refl W.B H) (.bl _)⟩
theorem ty_isi2 {te : TE} {T S : String} (h : Ty W Γ te (dt K d)) (hT : T ∈ ["int", "bool", "str", "list", "tuple", "dict"] := by decide) (hS : S ∈ ["int", "bool", "str", "list", "tuple", "dict"] := by decide) :
    Ty W Γ (tCB (rIsiT K) (tCons te (tCons (tTup (tCons (tC (.ty T)) (tCons (tC (.ty S)) tNil))) tNil))) (dt K (.bool (isD d T || isD d S))) := fun σ H c g Q q => by
  refine h σ H c g _ fun v H1 e1 hv => ⟨sz_le (by show 2 ≤ 1000000; decide), fun p hp => ?_⟩
  refine ⟨v, p, [.ty T, .ty S], _, [.type T, .type S], _, rfl, upd_same, .cons (.ty T) (.cons (.ty S) .nil), Rp.ty (Rp.up (Ex.new (B := W.B) hp).toW hv), ?_, q _ _ (e1.trans (Ex.new hp)) (.bl _)⟩
  refine kitAny_cons (kitD hT) (fun z => kitAny_cons (kitD hS) (fun z' => ?_) fun z' => ?_) fun z => ?_
  · rw [z, z']; exact kitAny_nil
  · rw [z, z']; rfl
  · rw [z]; rfl
end
end Ew

end
section
set_option Elab.async false
set_option linter.all false
set_option maxRecDepth 100000
set_option maxHeartbeats 1000000
/-! EwD: walks, comprehensions, loops, by types. -/
namespace Ew
open PySem PySem.Spec PyProof.Rows L2
theorem TysV.one {M B : Addr → Prop} {A : Typ} {us : List V} {H : Hp} (h : TysV M B [A] us H) : ∃ v, us = [v] ∧ A.p M B v H := by
  match us, h with
  | [v], h => exact ⟨v, rfl, h.1⟩
theorem TysV.two {M B : Addr → Prop} {A C : Typ} {us : List V} {H : Hp} (h : TysV M B [A, C] us H) : ∃ v w, us = [v, w] ∧ A.p M B v H ∧ C.p M B w H := by
  match us, h with
  | [v, w], h => exact ⟨v, w, rfl, h.1, h.2.1⟩
/-- M, or M and something new -/
def MOk (W : Wd) (H : Hp) (M' : Addr → Prop) : Prop := M' = W.M ∨ ∃ D, H D = none ∧ M' = ad W.M D
theorem MOk.tys {W : Wd} {H : Hp} {M' : Addr → Prop} (m : MOk W H M') {Ts : List Typ} {xs : List V} (h : TysV W.M W.B Ts xs H) : TysV M' W.B Ts xs H := by
  rcases m with rfl | ⟨D, n, rfl⟩
  · exact h
  · exact h.weak n
theorem MOk.nm {W : Wd} {H : Hp} {M' : Addr → Prop} (m : MOk W H M') {a : Addr} {o : HO} (h : H a = some o) (n : ¬ W.M a) : ¬ M' a := by
  rcases m with rfl | ⟨D, q, rfl⟩
  · exact n
  · exact fun z => z.elim n (ne_of_none h q)
theorem MOk.sub {W : Wd} {H : Hp} {M' : Addr → Prop} (m : MOk W H M') : ∀ a, W.B a → M' a := by
  rcases m with rfl | ⟨D, q, rfl⟩
  · exact W.sub
  · exact fun a h => .inl (W.sub a h)
/-- from H on the walk J yields values of the types Ts -/
def WalkT (W : Wd) (J : It) (Ts : List Typ) (H : Hp) : Prop := ∃ (G : Hp → Prop) (Y : Nat → Hp → V → Hp → Prop), Walk J Ts.length G Y ∧ G H ∧ ∀ M', MOk W H M' → (∀ Ha Hb, Exm M' W.B Ha Hb → G Ha → G Hb) ∧
  ∀ i Ha x Hb T, Ts[i]? = some T → Exm M' W.B H Ha → G Ha → Y i Ha x Hb → Ex W.B Ha Hb ∧ T.p M' W.B x Hb
section
variable (W : Wd) (Γ : Gam)
def TyI (wi : TI) (Ts : List Typ) : Prop := ∀ σ H, Cxt W H → EnvW W Γ σ H → ∀ R : It → Hp → Prop, (∀ J H1, Ex W.B H H1 → WalkT W J Ts H1 → R J H1) → wi σ H R
/-- a target: the slots behind it -/
def TyG (g : TG) (T : Typ) (Γ' : Gam) : Prop := ∀ v σ H, Cxt W H → EnvW W Γ σ H → T.at W v H → ∀ Q : Sx → Hp → Prop, (∀ σ' H', Ex W.B H H' → EnvW W Γ' σ' H' → Q σ' H') → g v σ H Q
def TyGs (g : TGs) (Ts : List Typ) (Γ' : Gam) : Prop := ∀ vs σ H, Cxt W H → EnvW W Γ σ H → TysV W.M W.B Ts vs H → ∀ Q : Sx → Hp → Prop, (∀ σ' H', Ex W.B H H' → EnvW W Γ' σ' H' → Q σ' H') → g vs σ H Q
end
/-- the target changes slots of vs alone; what is asked may be weakened -/
structure GOk (g : TG) (vs : List Nat) : Prop where
  kept : ∀ v σ H Q, g v σ H Q → g v σ H fun σ' H' => L2.wipe σ' vs = L2.wipe σ vs ∧ Q σ' H'
  mono : ∀ v σ H (Q Q' : Sx → Hp → Prop), (∀ σ' H', Q σ' H' → Q' σ' H') → g v σ H Q → g v σ H Q'
structure GsOk (g : TGs) (vs : List Nat) : Prop where
  kept : ∀ v σ H Q, g v σ H Q → g v σ H fun σ' H' => L2.wipe σ' vs = L2.wipe σ vs ∧ Q σ' H'
  mono : ∀ v σ H (Q Q' : Sx → Hp → Prop), (∀ σ' H', Q σ' H' → Q' σ' H') → g v σ H Q → g v σ H Q'
theorem wipe_set {i : Nat} {x : Option V} : ∀ {vs : List Nat} {σ : Sx}, i ∈ vs → L2.wipe (σ.set i x) vs = L2.wipe σ vs
  | [], _, h => by cases h
  | v :: vs, σ, h => by
    show (L2.wipe (σ.set i x) vs).set v none = (L2.wipe σ vs).set v none
    by_cases e : i ∈ vs
    · rw [wipe_set e]
    · have ev : i = v := by
        rcases List.mem_cons.mp h with z | z
        · exact z
        · exact absurd z e
      subst ev
      have comm : ∀ {ws : List Nat} {τ : Sx}, i ∉ ws → L2.wipe (τ.set i x) ws = (L2.wipe τ ws).set i x := by
        intro ws
        induction ws with
        | nil => intro τ _; rfl
        | cons w ws ih =>
          intro τ hn
          have h1 : i ≠ w := fun z => hn (by rw [z]; exact List.mem_cons_self ..)
          have h2 : i ∉ ws := fun z => hn (List.mem_cons_of_mem _ z)
          show (L2.wipe (τ.set i x) ws).set w none = ((L2.wipe τ ws).set w none).set i x
          rw [ih h2, List.set_comm _ _ h1]
      rw [comm e, List.set_set]
theorem wipe_wipe {σ : Sx} {vs : List Nat} : ∀ {ws : List Nat}, (∀ v ∈ ws, v ∈ vs) → L2.wipe (L2.wipe σ ws) vs = L2.wipe σ vs
  | [], _ => rfl
  | w :: ws, h => by
    show L2.wipe ((L2.wipe σ ws).set w none) vs = _
    rw [wipe_set (h w (List.mem_cons_self ..)), wipe_wipe fun v hv => h v (List.mem_cons_of_mem _ hv)]
section
variable {W : Wd} {Γ Γ' : Gam} {K : PySem.W.Frag} {T U A C P : Typ} {Ts Us : List Typ} {ds : List PyData} {d : PyData} {ta : TA} {te : TE} {g : TG} {gs : TGs} {vs : List Nat}
theorem gok_name (i : Nat) (h : i ∈ vs) : GOk (gName i) vs := ⟨fun v σ H Q q => ⟨wipe_set h, q⟩, fun _ _ _ _ _ h q => h _ _ q⟩
theorem gok_nil : GsOk gNil vs := ⟨fun v σ H Q ⟨h, q⟩ => ⟨h, rfl, q⟩, fun _ _ _ _ _ h q => ⟨q.1, h _ _ q.2⟩⟩
theorem gok_cons (h : GOk g vs) (k : GsOk gs vs) : GsOk (gCons g gs) vs :=
  ⟨fun v σ H Q ⟨x, r, e, q⟩ => ⟨x, r, e, h.mono _ _ _ _ _ (fun σ1 H1 ⟨w1, z⟩ => k.mono _ _ _ _ _ (fun σ2 H2 ⟨w2, z2⟩ => ⟨w2.trans w1, z2⟩) (k.kept _ _ _ _ z)) (h.kept _ _ _ _ q)⟩,
    fun v σ H Q Q' hq ⟨x, r, e, q⟩ => ⟨x, r, e, h.mono _ _ _ _ _ (fun σ' H' z => k.mono _ _ _ _ _ hq z) q⟩⟩
theorem gok_tup {n : Nat} (h : GsOk gs vs) : GOk (gTup K n gs) vs := ⟨fun v σ H Q ⟨a, xs, e, s, l, q⟩ => ⟨a, xs, e, s, l, h.kept _ _ _ _ q⟩, fun v σ H Q Q' hq ⟨a, xs, e, s, l, q⟩ => ⟨a, xs, e, s, l, h.mono _ _ _ _ _ hq q⟩⟩
theorem gok_unl {n : Nat} (h : GsOk gs vs) : GOk (gUnl K n gs) vs := ⟨fun v σ H Q ⟨a, xs, e, s, l, q⟩ => ⟨a, xs, e, s, l, h.kept _ _ _ _ q⟩, fun v σ H Q Q' hq ⟨a, xs, e, s, l, q⟩ => ⟨a, xs, e, s, l, h.mono _ _ _ _ _ hq q⟩⟩
theorem tyg_name (i : Nat) : TyG W Γ (gName i) T (Γ.set i (some T)) := fun v σ H c g hv Q q => q _ H (Ex.refl _ _) (EnvL.set hv g)
theorem tygs_nil : TyGs W Γ gNil [] Γ := fun vs σ H c g hv Q q => by
  match vs, hv with
  | [], _ => exact ⟨rfl, q _ _ (Ex.refl _ _) g⟩
theorem tygs_cons {Γ1 Γ2 : Gam} (h : TyG W Γ g T Γ1) (k : TyGs W Γ1 gs Ts Γ2) : TyGs W Γ (gCons g gs) (T :: Ts) Γ2 := fun vs σ H c e hv Q q => by
  match vs, hv with
  | v :: vs, hv => exact ⟨v, vs, rfl, h v σ H c e hv.1 _ fun σ1 H1 e1 g1 => k vs σ1 H1 (c.up e1) g1 (hv.2.up e1.toW) Q fun σ2 H2 e2 g2 => q σ2 H2 (e1.trans e2) g2⟩
theorem tyg_tup {n : Nat} (h : TyGs W Γ gs Ts Γ') (hn : Ts.length = n := by rfl) : TyG W Γ (gTup K n gs) (tupT K Ts) Γ' := fun v σ H c g ⟨a, xs, h1, h2, h3⟩ Q q => ⟨a, xs, h1, h2, by rw [h3.length, hn], h xs σ H c g h3 Q q⟩
theorem tyg_unl {n : Nat} (h : TyGs W Γ gs Ts Γ') (hn : Ts.length = n := by rfl) : TyG W Γ (gUnl K n gs) (lstT Ts) Γ' := fun v σ H c g ⟨a, xs, h1, h0, h2, h3⟩ Q q => ⟨a, xs, h1, SqL.of h2, by rw [h3.length, hn], h xs σ H c g h3 Q q⟩
theorem TyG.sub (h : TyG W Γ g T Γ') (k : ∀ v H, U.at W v H → T.at W v H) : TyG W Γ g U Γ' := fun v σ H c e hv Q q => h v σ H c e (k v H hv) Q q
/-! ### what is walked -/
/-- over a tuple -/
theorem tyi_tup (h : Ty W Γ te (tupT K Ts)) : TyI W Γ (iTup K te) Ts := fun σ H c g R q => h σ H c g _ fun v H1 e ⟨a, xs, h1, h2, h3⟩ => by
  subst h1
  refine ⟨a, rfl, ⟨xs, h2⟩, q _ H1 e ⟨fun H => SqT K H a xs, YAt xs, by rw [← h3.length]; exact walk_tup, h2, fun M' m => ⟨fun Ha Hb f z => f.sqT z, fun i Ha x Hb T hT f z y => ?_⟩⟩⟩
  obtain ⟨rfl, y⟩ := y
  obtain ⟨w, h4, h5⟩ := (m.tys h3).get hT
  rw [h4] at y; cases y
  exact ⟨Ex.refl _ _, T.up f h5⟩
theorem tyi_tupD (h : Ty W Γ te (dt K (.tuple ds))) : TyI W Γ (iTup K te) (ds.map (dt K)) := tyi_tup (h.sub fun _ _ _ => data_tupT)
/-- over a list that stays -/
theorem tyi_lst (h : Ty W Γ te (lstT Ts)) : TyI W Γ (iList K te) Ts := fun σ H c g R q => h σ H c g _ fun v H1 e ⟨a, xs, h1, h0, h2, h3⟩ => by
  subst h1
  refine ⟨a, rfl, ⟨xs, SqL.of h2⟩, q _ H1 e ⟨fun H => SqL K H a xs, YAt xs, by rw [← h3.length]; exact walk_list, SqL.of h2, fun M' m => ⟨fun Ha Hb f z => f.sqL (m.nm h2 h0) z, fun i Ha x Hb T hT f z y => ?_⟩⟩⟩
  obtain ⟨rfl, y⟩ := y
  obtain ⟨w, h4, h5⟩ := (m.tys h3).get hT
  rw [h4] at y; cases y
  exact ⟨Ex.refl _ _, T.up f h5⟩
theorem tyi_lstD (h : Ty W Γ te (dt K (.list ds))) : TyI W Γ (iList K te) (ds.map (dt K)) := tyi_lst (h.sub fun _ _ _ => data_lstT)
theorem range_map_get {f : Nat → Typ} {n i : Nat} {T : Typ} (h : ((List.range n).map f)[i]? = some T) : i < n ∧ T = f i := by
  rw [List.getElem?_map] at h
  cases hr : (List.range n)[i]? with
  | none => rw [hr] at h; cases h
  | some k =>
    rw [hr] at h
    obtain ⟨hl, ek⟩ := List.getElem?_eq_some_iff.mp hr
    rw [List.getElem_range] at ek
    subst ek
    rw [List.length_range] at hl
    cases h
    exact ⟨hl, rfl⟩
/-- range(n) -/
theorem tyi_rng1 {n : Int} (h : TyA W Γ ta [dt K (.int n)]) (hn : n ≤ 1000000000) (h0 : -1000000000 ≤ n) : TyI W Γ (iRng1 ta) ((List.range n.toNat).map fun i => dt K (.int (i : Nat))) := fun σ H c g R q => h σ H c g _ fun us H1 e hu => by
  obtain ⟨v, rfl, h1⟩ := hu.one
  cases h1
  refine ⟨n, rfl, by omega, by omega, q _ H1 e ⟨fun _ => True, YFn fun i => .int (0 + i), by rw [List.length_map, List.length_range]; exact walk_range, True.intro, fun M' m => ⟨fun _ _ _ _ => True.intro, fun i Ha x Hb T hT f z y => ?_⟩⟩⟩
  obtain ⟨rfl, y⟩ := y
  obtain ⟨hl, rfl⟩ := range_map_get hT
  subst y
  refine ⟨Ex.refl _ _, ?_⟩
  show Rp M' K Hb (V.int (0 + (i : Int))) (.int (i : Int))
  rw [Int.zero_add]
  exact .int _
/-- enumerate(list) -/
theorem tyi_enumL (h : TyA W Γ ta [lstT Ts]) : TyI W Γ (iEnum K ta) ((List.range Ts.length).map fun i => tupT K [dt K (.int (i : Nat)), Ts.getD i (isV .non)]) := fun σ H c g R q => h σ H c g _ fun us H1 e hu => by
  obtain ⟨v, rfl, a, xs, rfl, h0, h2, h3⟩ := hu.one
  refine ⟨a, xs, rfl, SqL.of h2, q _ H1 e ⟨fun H => SqL K H a xs, YPair (fun i => some (.int (i : Nat))) (fun i => xs[i]?), by rw [List.length_map, List.length_range, ← h3.length]; exact walk_enum, SqL.of h2, fun M' m => ⟨fun Ha Hb f z => f.sqL (m.nm h2 h0) z, fun i Ha x Hb T hT f z y => ?_⟩⟩⟩
  obtain ⟨Tp, x0, y0, rfl, hn, rfl, ex, ey⟩ := y
  cases ex
  obtain ⟨hl, rfl⟩ := range_map_get hT
  obtain ⟨w, h4, h5⟩ := (m.tys h3).get (List.getElem?_eq_getElem hl)
  have ey' := h4.symm.trans ey
  cases ey'
  refine ⟨Ex.new hn, Tp, _, rfl, SqT.of upd_same, .int _, ?_, True.intro⟩
  show (Ts.getD i (isV .non)).p M' W.B y0 _
  rw [List.getD_eq_getElem?_getD, List.getElem?_eq_getElem hl]
  exact Typ.up _ (f.trans ((Ex.new (B := W.B) hn).toM m.sub)) h5
theorem zip_len {a b x y : Nat} (h : a = x) (k : b = y) : min x y = min a b := by rw [h, k]
theorem walk_zipT {a b : Addr} {xs ys : List V} {n : Nat} (hn : n = min xs.length ys.length) : Walk (RZ.ItzT K a b) n (fun H => SqT K H a xs ∧ SqT K H b ys) (YPair (fun i => xs[i]?) (fun i => ys[i]?)) := by
  subst hn
  refine ⟨fun i _ hi q => ?_, fun _ q => ⟨xs, ys, q.1, q.2, by omega⟩, fun i H v H' _ q y => ?_⟩
  · have h1 : i < xs.length := by omega
    have h2 : i < ys.length := by omega
    exact ⟨xs, ys, xs[i], ys[i], q.1, q.2, by simp [h1], by simp [h2]⟩
  · obtain ⟨T, x, z, h1, h2, h3, h4, h5⟩ := y
    exact ⟨T, x, z, h1, h2, h3, h4 xs q.1, h5 ys q.2⟩
theorem zip_map_get {i : Nat} {f : Typ × Typ → Typ} (h : ((Ts.zip Us).map f)[i]? = some T) : ∃ A C, Ts[i]? = some A ∧ Us[i]? = some C ∧ T = f (A, C) := by
  rw [List.getElem?_map] at h
  cases hr : (Ts.zip Us)[i]? with
  | none => rw [hr] at h; cases h
  | some p =>
    rw [hr] at h
    cases h
    obtain ⟨q1, q2⟩ := List.getElem?_zip_eq_some.mp hr
    exact ⟨_, _, q1, q2, rfl⟩
/-- zip of two tuples -/
theorem tyi_zipT (h : TyA W Γ ta [tupT K Ts, tupT K Us]) : TyI W Γ (RZ.iZipA K ta) ((Ts.zip Us).map fun p => tupT K [p.1, p.2]) := fun σ H c g R q => h σ H c g _ fun us H1 e hu => by
  obtain ⟨v, w, rfl, ⟨a, xs, rfl, h2, h3⟩, ⟨b, ys, rfl, h4, h5⟩⟩ := hu.two
  refine ⟨a, b, xs, ys, rfl, .inr ⟨h2, h4, q _ H1 e ⟨fun H => SqT K H a xs ∧ SqT K H b ys, YPair (fun i => xs[i]?) (fun i => ys[i]?), ?_, ⟨h2, h4⟩, fun M' m => ⟨fun Ha Hb f z => ⟨f.sqT z.1, f.sqT z.2⟩, fun i Ha x Hb T hT f z y => ?_⟩⟩⟩⟩
  · refine walk_zipT ?_
    rw [List.length_map, List.length_zip]
    exact zip_len h3.length h5.length
  · obtain ⟨Tp, x0, y0, rfl, hn, rfl, ex, ey⟩ := y
    obtain ⟨A, C, q1, q2, rfl⟩ := zip_map_get hT
    obtain ⟨x1, e1, r1⟩ := (m.tys h3).get q1
    obtain ⟨y1, e2, r2⟩ := (m.tys h5).get q2
    have ex' := e1.symm.trans ex
    cases ex'
    have ey' := e2.symm.trans ey
    cases ey'
    exact ⟨Ex.new hn, Tp, _, rfl, SqT.of upd_same, Typ.up _ (f.trans ((Ex.new (B := W.B) hn).toM m.sub)) r1, Typ.up _ (f.trans ((Ex.new (B := W.B) hn).toM m.sub)) r2, True.intro⟩
theorem filter_range_succ {f : Nat → Bool} {F : Nat → Typ} {n : Nat} : ((List.range (n + 1)).filter f).map F = ((List.range n).filter f).map F ++ (if f n = true then [F n] else []) := by
  rw [List.range_succ, List.filter_append, List.map_append]
  congr 1
  cases h : f n <;> simp [h]
theorem filter_range_len {f : Nat → Bool} {F : Nat → Typ} (n : Nat) : (((List.range n).filter f).map F).length ≤ n := by
  rw [List.length_map]
  exact Nat.le_trans (List.length_filter_le _ _) (by rw [List.length_range]; exact Nat.le_refl _)
/-! ### comprehensions -/
theorem tyl_lc {wi : TI} {tt : TT} (f : Nat → Bool) (F : Nat → Typ) (hi : TyI W Γ wi Ts) (hz : Ts.length ≤ 1000000) (gk : GOk g vs)
    (hs : ∀ (W' : Wd) i T, Ts[i]? = some T → ∃ Γi, TyG W' (wipeG Γ vs) g T Γi ∧ Tt W' Γi tt (· = f i) ∧ (f i = true → Ty W' Γi te (F i))) :
    TyL W Γ (tLc wi g tt te vs) (((List.range Ts.length).filter f).map F) := fun σ H c e Q q => by
  refine hi σ H c e _ fun J H1 e1 hw => ?_
  intro D hD
  obtain ⟨G, Y, w, hG, hup⟩ := hw
  obtain ⟨hup, hy⟩ := hup (W.ad D).M (.inr ⟨D, hD, rfl⟩)
  have c1 := c.up e1
  have bD : ¬ W.B D := c1.nb hD
  have toD : ∀ {Ha Hb : Hp}, Ex W.B Ha Hb → Exm (W.ad D).M W.B Ha Hb := fun z => Ex.toW (W := W.ad D) z
  have cD : ∀ {H2 : Hp}, Ex W.B H1 H2 → H2 D ≠ none → Cxt (W.ad D) H2 := fun {H2} e2 n => ⟨(c1.up e2).box, fun a h z => by
    rcases h with h | h
    · exact (c1.up e2).al a h z
    · rw [h] at z; exact n z, (c1.up e2).ex, (c1.up e2).own⟩
  have env1 : EnvL (W.ad D).M W.B Γ σ H1 := EnvL.weak hD (e.up e1.toW)
  refine lc_it w (fun i H2 => Ex W.B H1 H2 ∧ G H2 ∧ ∃ acc, H2 D = some (.lst acc) ∧ TysV (W.ad D).M W.B (((List.range i).filter f).map F) acc H2) ?_ (fun i H2 _ h => h.2.1) ?_ ?_
  · exact ⟨Ex.new hD, hup _ _ (toD (Ex.new hD)) hG, [], upd_same, True.intro⟩
  · rintro i x H2 H3 hi ⟨e2, hG2, acc, hacc, ht⟩ hx
    have hT : Ts[i]? = some (Ts[i]'hi) := List.getElem?_eq_getElem hi
    obtain ⟨e3, hxt⟩ := hy i H2 x H3 _ hT (toD e2) hG2 hx
    obtain ⟨Γi, k1, k2, k3⟩ := hs (W.ad D) i _ hT
    have d3 : H3 D = some (.lst acc) := e3.keep hacc bD
    have some_ne : ∀ {Hx : Hp} {o : HO}, Hx D = some o → Hx D ≠ none := fun h z => by rw [h] at z; cases z
    have env3 : EnvL (W.ad D).M W.B (wipeG Γ vs) (L2.wipe σ vs) H3 := (env1.up (toD (e2.trans e3))).wipe vs
    refine gk.mono _ _ _ _ _ ?_ (gk.kept _ _ _ _ (k1 x _ H3 (cD (e2.trans e3) (some_ne d3)) env3 hxt (fun σ4 H4 => Ex W.B H3 H4 ∧ EnvL (W.ad D).M W.B Γi σ4 H4) fun σ4 H4 e4 g4 => ⟨e4, g4⟩))
    rintro σ4 H4 ⟨w4, e4, g4⟩
    refine ⟨w4.trans (wipe_wipe fun _ h => h) |>.trans (wipe_wipe fun _ h => h).symm |>.trans (wipe_wipe fun _ h => h), ?_⟩
    have d4 : H4 D = some (.lst acc) := e4.keep d3 bD
    have e24 := e2.trans (e3.trans e4)
    refine k2 σ4 H4 (cD e24 (some_ne d4)) g4 _ fun b H5 e5 hb => ?_
    have e5' : Ex W.B H4 H5 := e5
    have d5 : H5 D = some (.lst acc) := e5'.keep d4 bD
    have lacc : acc.length ≤ i := by rw [ht.length]; exact filter_range_len i
    have e25 := (e3.trans e4).trans e5'
    cases b with
    | true =>
      rw [if_pos rfl]
      refine k3 hb.symm σ4 H5 (cD (e24.trans e5') (some_ne d5)) (g4.up (toD e5')) _ fun y H6 e6 hy6 => ?_
      have e6' : Ex W.B H5 H6 := e6
      have d6 : H6 D = some (.lst acc) := e6'.keep d5 bD
      have put : Exm (W.ad D).M W.B H6 (upd H6 D (.lst (acc ++ [y]))) := Exm.put (.inr rfl) bD d6
      refine ⟨acc, d6, sz_lt (by omega), ((e24.trans e5').trans e6').mut hD, hup _ _ put (hup _ _ (toD (e25.trans e6')) hG2), acc ++ [y], upd_same, ?_⟩
      rw [filter_range_succ, ← hb, if_pos rfl]
      exact ((ht.up (toD (e25.trans e6'))).append (show TysV (W.ad D).M W.B [F i] [y] H6 from ⟨hy6, True.intro⟩)).up put
    | false =>
      rw [if_neg Bool.false_ne_true]
      refine ⟨e24.trans e5', hup _ _ (toD e25) hG2, acc, d5, ?_⟩
      rw [filter_range_succ, ← hb, if_neg Bool.false_ne_true, List.append_nil]
      exact ht.up (toD e25)
  · rintro H2 ⟨e2, hG2, acc, hacc, ht⟩
    exact q D acc H2 (e1.trans e2) (e1.free hD) hacc ht.drop
theorem filter_yes {n : Nat} : (List.range n).filter (fun _ => true) = List.range n := List.filter_eq_self.mpr fun _ _ => rfl
/-- without a test -/
theorem tyl_lc1 {wi : TI} (F : Nat → Typ) (hi : TyI W Γ wi Ts) (hz : Ts.length ≤ 1000000) (gk : GOk g vs)
    (hs : ∀ (W' : Wd) i T, Ts[i]? = some T → ∃ Γi, TyG W' (wipeG Γ vs) g T Γi ∧ Ty W' Γi te (F i)) :
    TyL W Γ (tLc wi g tYes te vs) ((List.range Ts.length).map F) := by
  have h := tyl_lc (tt := tYes) (fun _ => true) F hi hz gk fun W' i T hT => by
    obtain ⟨Γi, h1, h2⟩ := hs W' i T hT
    exact ⟨Γi, h1, fun σ H c e Q q => q true H (Ex.refl _ _) rfl, fun _ => h2⟩
  rw [filter_yes] at h
  exact h
/-! ### loops -/
variable {N : Sx → Hp → Prop} {R : V → Hp → Prop} {Bk Ct : Sx → Hp → Prop}
/-- for: before turn i the slots are Γi i x in the world Wi i x, for some x -/
theorem tys_for {α : Type} {wi : TI} {tb : TS} (Wi : Nat → α → Wd) (Γi : Nat → α → Gam) (x0 : α) (hi : TyI W Γ wi Ts) (like : ∀ i x, W.Like (Wi i x)) (h0 : ∀ σ H, nE W Γ σ H → nE (Wi 0 x0) (Γi 0 x0) σ H)
    (hs : ∀ i T x, Ts[i]? = some T → ∃ Γt, TyG (Wi i x) (Γi i x) g T Γt ∧ TyS (Wi i x) Γt tb (fun σ H => ∃ y, nE (Wi (i + 1) y) (Γi (i + 1) y) σ H) R N (fun σ H => ∃ y, nE (Wi (i + 1) y) (Γi (i + 1) y) σ H))
    (hd : ∀ x σ H, nE (Wi Ts.length x) (Γi Ts.length x) σ H → N σ H) : TyS W Γ (tFor wi g tb) N R Bk Ct := fun σ H c e D dn dr db dc => by
  refine hi σ H c e _ fun J H1 e1 hw => ?_
  obtain ⟨G, Y, w, hG, hup⟩ := hw
  obtain ⟨hup, hy⟩ := hup W.M (.inl rfl)
  refine for_it w (D := D) (fun i σ2 H2 => Exm W.M W.B H1 H2 ∧ G H2 ∧ ∃ x, nE (Wi i x) (Γi i x) σ2 H2) ?_ (fun i σ2 H2 _ h => h.2.1) ?_ ?_
  · exact ⟨Exm.refl _ _ _, hG, x0, h0 σ H1 ⟨c.up e1, e.up e1.toW⟩⟩
  · rintro i v σ2 H2 H3 hi ⟨e2, hG2, x, c2, g2⟩ hx
    have hT : Ts[i]? = some (Ts[i]'hi) := List.getElem?_eq_getElem hi
    obtain ⟨e3, hxt⟩ := hy i H2 v H3 _ hT e2 hG2 hx
    obtain ⟨Γt, k1, k2⟩ := hs i _ x hT
    have l := like i x
    have e3' : Ex (Wi i x).B H2 H3 := by rw [l.b]; exact e3
    have hxt' : (Ts[i]'hi).at (Wi i x) v H3 := by show Typ.p _ _ _ _ _; rw [l.m, l.b]; exact hxt
    refine k1 v σ2 H3 (c2.up e3') (g2.up e3'.toW) hxt' _ fun σ4 H4 e4 g4 => ?_
    have e4b : Ex W.B H3 H4 := by rw [← l.b]; exact e4
    have e24 : Exm W.M W.B H2 H4 := (e3.trans e4b).toW
    refine k2 σ4 H4 ((c2.up e3').up e4) g4 _ (fun σ5 H5 e5 n5 => ⟨e2.trans (e24.trans (l.exm e5)), hup _ _ (e24.trans (l.exm e5)) hG2, n5⟩) dr (fun σ5 H5 e5 n5 => dn σ5 H5 (e1.toW.trans (e2.trans (e24.trans (l.exm e5)))) n5)
      (fun σ5 H5 e5 n5 => ⟨e2.trans (e24.trans (l.exm e5)), hup _ _ (e24.trans (l.exm e5)) hG2, n5⟩)
  · rintro σ2 H2 ⟨e2, hG2, x, n2⟩
    exact dn σ2 H2 (e1.toW.trans e2) (hd x σ2 H2 n2)
/-! ### calls that take a list -/
theorem lst_sq {M B : Addr → Prop} {v : V} {H : Hp} (h : (lstT Ts).p M B v H) : ∃ a xs, v = .ref a ∧ SqL K H a xs ∧ TysV M B Ts xs H := by
  obtain ⟨a, xs, h1, _, h2, h3⟩ := h
  exact ⟨a, xs, h1, SqL.of h2, h3⟩
theorem tys_ints {M B : Addr → Prop} {H : Hp} : ∀ {ns : List Int} {xs : List V}, TysV M B (ns.map fun n => dt K (.int n)) xs H → xs = ns.map V.int
  | [], [], _ => rfl
  | n :: ns, x :: xs, h => by
    obtain ⟨h1, h2⟩ := h
    cases h1
    rw [tys_ints h2, List.map_cons]
  | [], _ :: _, h => h.elim
  | _ :: _, [], h => h.elim
theorem tys_bools {M B : Addr → Prop} {H : Hp} : ∀ {bs : List Bool} {xs : List V}, TysV M B (bs.map fun b => dt K (.bool b)) xs H → xs = bs.map V.bl
  | [], [], _ => rfl
  | n :: ns, x :: xs, h => by
    obtain ⟨h1, h2⟩ := h
    cases h1
    rw [tys_bools h2, List.map_cons]
  | [], _ :: _, h => h.elim
  | _ :: _, [], h => h.elim
theorem cbt_sum {ns : List Int} : CbT W (rSum K) [lstT (ns.map fun n => dt K (.int n))] (dt K (.int ns.sum)) := fun us H c hu Q q => by
  obtain ⟨v, rfl, h⟩ := hu.one
  obtain ⟨a, xs, rfl, h1, h2⟩ := lst_sq (K := K) h
  have e := tys_ints h2
  subst e
  exact ⟨a, ns, rfl, h1, q _ H (Ex.refl _ _) (.int _)⟩
theorem cbt_all {bs : List Bool} : CbT W (rAll K) [lstT (bs.map fun b => dt K (.bool b))] (dt K (.bool (bs.all id))) := fun us H c hu Q q => by
  obtain ⟨v, rfl, h⟩ := hu.one
  obtain ⟨a, xs, rfl, h1, h2⟩ := lst_sq (K := K) h
  have e := tys_bools h2
  subst e
  exact ⟨a, bs, rfl, h1, q _ H (Ex.refl _ _) (.bl _)⟩
theorem cbt_max {ns : List Int} (hn : ns ≠ []) : CbT W (rMax K) [lstT (ns.map fun n => dt K (.int n))] (exT fun m : Int => gd (m ∈ ns ∧ ∀ y, y ∈ ns → y ≤ m) (dt K (.int m))) := fun us H c hu Q q => by
  obtain ⟨v, rfl, h⟩ := hu.one
  obtain ⟨a, xs, rfl, h1, h2⟩ := lst_sq (K := K) h
  have e := tys_ints h2
  subst e
  exact ⟨a, ns, rfl, h1, List.length_pos_iff.mpr hn, fun m m1 m2 => q _ H (Ex.refl _ _) ⟨m, ⟨m1, m2⟩, .int _⟩⟩
def rTupOf (K : PySem.W.Frag) : List V → Hp → VK → Prop := fun xs H Q => ∃ p ys, xs = [.ref p] ∧ ((SqL K H p ys ∧ ∀ l, H l = none → Q (.ref l) (upd H l (.tup ys))) ∨ (SqT K H p ys ∧ Q (.ref p) H))
theorem cbt_tupL : CbT W (rTupOf K) [lstT Ts] (tupT K Ts) := fun us H c hu Q q => by
  obtain ⟨v, rfl, h⟩ := hu.one
  obtain ⟨a, xs, rfl, h1, h2⟩ := lst_sq (K := K) h
  exact ⟨a, xs, rfl, .inl ⟨h1, fun l hl => q _ _ (Ex.new hl) ⟨l, xs, rfl, SqT.of upd_same, h2.up (Ex.new (B := W.B) hl).toW⟩⟩⟩
theorem cbt_tupT : CbT W (rTupOf K) [tupT K Ts] (tupT K Ts) := fun us H c hu Q q => by
  obtain ⟨v, rfl, a, xs, rfl, h1, h2⟩ := hu.one
  exact ⟨a, xs, rfl, .inr ⟨h1, q _ _ (Ex.refl _ _) ⟨a, xs, rfl, h1, h2⟩⟩⟩
def rLstOf (K : PySem.W.Frag) : List V → Hp → VK → Prop := fun xs H Q => ∃ p ys, xs = [.ref p] ∧ (SqL K H p ys ∨ SqT K H p ys) ∧ ∀ l, H l = none → Q (.ref l) (upd H l (.lst ys))
theorem cbl_lstL : CbL W (rLstOf K) [lstT Ts] Ts := fun us H c hu Q q => by
  obtain ⟨v, rfl, h⟩ := hu.one
  obtain ⟨a, xs, rfl, h1, h2⟩ := lst_sq (K := K) h
  exact ⟨a, xs, rfl, .inl h1, fun l hl => q l xs _ (Ex.new hl) hl upd_same (h2.up (Ex.new (B := W.B) hl).toW)⟩
theorem cbl_lstT : CbL W (rLstOf K) [tupT K Ts] Ts := fun us H c hu Q q => by
  obtain ⟨v, rfl, a, xs, rfl, h1, h2⟩ := hu.one
  exact ⟨a, xs, rfl, .inr h1, fun l hl => q l xs _ (Ex.new hl) hl upd_same (h2.up (Ex.new (B := W.B) hl).toW)⟩
/-- tuple([..]) -/
theorem ty_tupOf (h : TyL W Γ te Ts) : Ty W Γ (tCB (rTupOf K) (tCons te tNil)) (tupT K Ts) := ty_cb (tya_cons h.ty tya_nil) cbt_tupL
theorem ty_sumOf {ns : List Int} (h : TyL W Γ te (ns.map fun n => dt K (.int n))) : Ty W Γ (tCB (rSum K) (tCons te tNil)) (dt K (.int ns.sum)) := ty_cb (tya_cons h.ty tya_nil) cbt_sum
theorem ty_allOf {bs : List Bool} (h : TyL W Γ te (bs.map fun b => dt K (.bool b))) : Ty W Γ (tCB (rAll K) (tCons te tNil)) (dt K (.bool (bs.all id))) := ty_cb (tya_cons h.ty tya_nil) cbt_all
end
end Ew

end
section
set_option Elab.async false
set_option linter.all false
set_option maxRecDepth 100000
set_option maxHeartbeats 1000000
/-! EwG: short words for derivations. -/
namespace Ew
open PySem PySem.Spec PyProof.Rows L2
section
variable {X : Cx} {e : Expr} {es : List Expr} {t : TA} {p pos : Pos} {te : TE}
/-- what the text says of a def -/
structure Defn (K : PySem.W.Frag) (mg : Str → Option Value) (x : Str) (f : Addr) (fd : FuncData) (ps : List Str) : Prop where
  g : mg x = some (.ref f)
  k : PySem.W.keepIn K (.ref f) = true
  b : Binds K fd ps []
/-- a name as a target -/
theorem pgn (i : Nat) {x : Str} (nd : X.N.Nodup) (hi : X.N[i]? = some x := by rfl) (hx : Loc X.env.scope x := by first | exact Or.inl rfl | exact Or.inr rfl)
    (hf : X.fn x = true ∨ X.env.scope.names.lookup x = some .local := by first | exact .inl rfl | exact .inr rfl) : PG X (.Name x pos) (gName i) := pg_name nd hi hx hf
/-- x = e -/
theorem pset (i : Nat) {x : Str} {pos' : Pos} (nd : X.N.Nodup) (he : PE X e te) (hi : X.N[i]? = some x := by rfl) (hx : Loc X.env.scope x := by first | exact Or.inl rfl | exact Or.inr rfl) (hs : swapsWith e (some (.Name x pos')) pos.line X.env = pure false := by rfl)
    (hf : X.fn x = true ∨ X.env.scope.names.lookup x = some .local := by first | exact .inl rfl | exact .inr rfl) : PS X (.Assign [.Name x pos'] e pos) (tAsg te (gName i)) := ps_set nd hi hx he hs hf
/-- x = [.. for ..], x no cell -/
theorem psetLc (i : Nat) {y : Str} {py spos : Pos} {elt tg iter : Expr} {ifs : List Expr} {scope : Scope} (own : List (Str × Nat)) {wi : TI} {g : TG} {tt : TT} (nd : X.N.Nodup) (hi : PI X tg iter wi)
    (hg : ∀ (s : Shared) (H : Hp) (C : Addr) (cl : List (Str × Addr)) (fp : List Addr), PG (X.blk s H scope (compEnvC scope cl C X.env) fp) tg g) (ht : ∀ (s : Shared) (H : Hp) (C : Addr) (cl : List (Str × Addr)) (fp : List Addr), PTs (X.blk s H scope (compEnvC scope cl C X.env) fp) ifs tt)
    (he : ∀ (s : Shared) (H : Hp) (C : Addr) (cl : List (Str × Addr)) (fp : List Addr), PE (X.blk s H scope (compEnvC scope cl C X.env) fp) elt te)
    (ok : blkC X.N X.env.scope scope own = true) (hsw : swapsWith (.ListComp elt [⟨tg, iter, ifs, 0⟩] scope pos) (some (.Name y py)) spos.line X.env = pure true)
    (hc : X.calm = true := by rfl) (hy : X.N[i]? = some y := by rfl) (hyl : X.env.scope.names.lookup y = some .local := by rfl) (hs : ∀ x, foldedSetIterable iter X.env x = pure x := by intro _; rfl) :
    PS X (.Assign [.Name y py] (.ListComp elt [⟨tg, iter, ifs, 0⟩] scope pos) spos) (tAsg (tLc wi g tt te (own.map (·.2))) (gName i)) := ps_setLc hc nd hy hyl hsw hi (blkOk_by ok) hg ht he hs
/-- [.. for ..] -/
theorem plc {elt tg iter : Expr} {ifs : List Expr} {scope : Scope} (own : List (Str × Nat)) {wi : TI} {g : TG} {tt : TT} (nd : X.N.Nodup) (hi : PI X tg iter wi)
    (hg : ∀ (s : Shared) (H : Hp) (C : Addr) (cl : List (Str × Addr)) (fp : List Addr), PG (X.blk s H scope (compEnvC scope cl C X.env) fp) tg g) (ht : ∀ (s : Shared) (H : Hp) (C : Addr) (cl : List (Str × Addr)) (fp : List Addr), PTs (X.blk s H scope (compEnvC scope cl C X.env) fp) ifs tt)
    (he : ∀ (s : Shared) (H : Hp) (C : Addr) (cl : List (Str × Addr)) (fp : List Addr), PE (X.blk s H scope (compEnvC scope cl C X.env) fp) elt te)
    (ok : blkC X.N X.env.scope scope own = true) (hc : X.calm = true := by rfl) (hs : ∀ x, foldedSetIterable iter X.env x = pure x := by intro _; rfl) :
    PE X (.ListComp elt [⟨tg, iter, ifs, 0⟩] scope pos) (tLc wi g tt te (own.map (·.2))) := pe_lc hc nd hi (blkOk_by ok) hg ht he hs
/-- f(..), f a def -/
theorem pcall {f : Addr} {x : Str} {fd : FuncData} {ps : List Str} {sp : Sp} {k : Nat} (G : FnOk X.prog X.w X.K X.mg X.base (L2.CX X.prog X.w) k f fd ps sp) (hr : Room k X.A) (D : Defn X.K X.mg x f fd ps) (ha : PA X (e :: es) t)
    (hg : Gl X x := by rfl) (hdb : (x == ("__debug__" : Str)) = false := by decide) (he : starEach (e :: es) X.env = (false, eval e X.env) :: starEach es X.env := by rfl) (hpl : (backTo pos (starEach es X.env)).any (·.1) = false := by rfl) :
    PE X (.Call (.Name x p) (e :: es) [] pos) (tCall sp [] E0 t) := pe_call G hr hg D.g D.k D.b .nil passL ha hdb he hpl
section
variable (ha : PA X (e :: es) t)
theorem bi_len (m : X.mg "len" = none) (ha : PA X (e :: es) t) (hg : Gl X "len" := by rfl) (he : starEach (e :: es) X.env = (false, eval e X.env) :: starEach es X.env := by rfl) (hpl : (backTo pos (starEach es X.env)).any (·.1) = false := by rfl) :
    PE X (.Call (.Name "len" p) (e :: es) [] pos) (tCB (rLen X.K) t) := pe_callB call_len hg m PySem.boot_len ha (by decide) (by decide) he hpl
theorem bi_isi (m : X.mg "isinstance" = none) (ha : PA X (e :: es) t) (hg : Gl X "isinstance" := by rfl) (he : starEach (e :: es) X.env = (false, eval e X.env) :: starEach es X.env := by rfl) (hpl : (backTo pos (starEach es X.env)).any (·.1) = false := by rfl) :
    PE X (.Call (.Name "isinstance" p) (e :: es) [] pos) (tCB (rIsi X.K) t) := pe_callB call_isi hg m PyProof.Rows.boot_isinstance ha (by decide) (by decide) he hpl
theorem bi_isi2 (m : X.mg "isinstance" = none) (ha : PA X (e :: es) t) (hg : Gl X "isinstance" := by rfl) (he : starEach (e :: es) X.env = (false, eval e X.env) :: starEach es X.env := by rfl) (hpl : (backTo pos (starEach es X.env)).any (·.1) = false := by rfl) :
    PE X (.Call (.Name "isinstance" p) (e :: es) [] pos) (tCB (rIsiT X.K) t) := pe_callB call_isiT hg m PyProof.Rows.boot_isinstance ha (by decide) (by decide) he hpl
theorem bi_sum (m : X.mg "sum" = none) (ha : PA X (e :: es) t) (hc : X.calm = true := by rfl) (hg : Gl X "sum" := by rfl) (he : starEach (e :: es) X.env = (false, eval e X.env) :: starEach es X.env := by rfl) (hpl : (backTo pos (starEach es X.env)).any (·.1) = false := by rfl) :
    PE X (.Call (.Name "sum" p) (e :: es) [] pos) (tCB (rSum X.K) t) := pe_callB (cr_sum hc) hg m PyProof.Rows.boot_sum ha (by decide) (by decide) he hpl
theorem bi_all (m : X.mg "all" = none) (ha : PA X (e :: es) t) (hc : X.calm = true := by rfl) (hg : Gl X "all" := by rfl) (he : starEach (e :: es) X.env = (false, eval e X.env) :: starEach es X.env := by rfl) (hpl : (backTo pos (starEach es X.env)).any (·.1) = false := by rfl) :
    PE X (.Call (.Name "all" p) (e :: es) [] pos) (tCB (rAll X.K) t) := pe_callB (cr_all hc) hg m PyProof.Rows.boot_all ha (by decide) (by decide) he hpl
theorem bi_max1 (m : X.mg "max" = none) (ha : PA X (e :: es) t) (hc : X.calm = true := by rfl) (hg : Gl X "max" := by rfl) (he : starEach (e :: es) X.env = (false, eval e X.env) :: starEach es X.env := by rfl) (hpl : (backTo pos (starEach es X.env)).any (·.1) = false := by rfl) :
    PE X (.Call (.Name "max" p) (e :: es) [] pos) (tCB (rMax X.K) t) := pe_callB (cr_max hc) hg m PyProof.Rows.boot_max ha (by decide) (by decide) he hpl
abbrev rMax2 : List V → Hp → VK → Prop := fun xs H Q => ∃ i j, xs = [.int i, .int j] ∧ Q (.int (if j > i then j else i)) H
abbrev rMin2 : List V → Hp → VK → Prop := fun xs H Q => ∃ i j, xs = [.int i, .int j] ∧ Q (.int (if j < i then j else i)) H
theorem bi_max2 (m : X.mg "max" = none) (ha : PA X (e :: es) t) (hc : X.calm = true := by rfl) (hg : Gl X "max" := by rfl) (he : starEach (e :: es) X.env = (false, eval e X.env) :: starEach es X.env := by rfl) (hpl : (backTo pos (starEach es X.env)).any (·.1) = false := by rfl) :
    PE X (.Call (.Name "max" p) (e :: es) [] pos) (tCB rMax2 t) := pe_callB (call_max2 hc) hg m PyProof.Rows.boot_max ha (by decide) (by decide) he hpl
theorem bi_min2 (m : X.mg "min" = none) (ha : PA X (e :: es) t) (hc : X.calm = true := by rfl) (hg : Gl X "min" := by rfl) (he : starEach (e :: es) X.env = (false, eval e X.env) :: starEach es X.env := by rfl) (hpl : (backTo pos (starEach es X.env)).any (·.1) = false := by rfl) :
    PE X (.Call (.Name "min" p) (e :: es) [] pos) (tCB rMin2 t) := pe_callB (call_min2 hc) hg m PyProof.Rows.boot_min ha (by decide) (by decide) he hpl
abbrev rAbs : List V → Hp → VK → Prop := fun xs H Q => ∃ i, xs = [.int i] ∧ Q (.int (if i < 0 then -i else i)) H
theorem bi_abs (m : X.mg "abs" = none) (ha : PA X (e :: es) t) (hg : Gl X "abs" := by rfl) (he : starEach (e :: es) X.env = (false, eval e X.env) :: starEach es X.env := by rfl) (hpl : (backTo pos (starEach es X.env)).any (·.1) = false := by rfl) :
    PE X (.Call (.Name "abs" p) (e :: es) [] pos) (tCB rAbs t) := pe_callB call_abs hg m PyProof.Rows.boot_abs ha (by decide) (by decide) he hpl
abbrev rInt : List V → Hp → VK → Prop := fun xs H Q => (∃ i, xs = [.int i] ∧ Q (.int i) H) ∨ ∃ k, xs = [.bl k] ∧ Q (.int (if k then 1 else 0)) H
theorem bi_int (m : X.mg "int" = none) (ha : PA X (e :: es) t) (hg : Gl X "int" := by rfl) (he : starEach (e :: es) X.env = (false, eval e X.env) :: starEach es X.env := by rfl) (hpl : (backTo pos (starEach es X.env)).any (·.1) = false := by rfl) :
    PE X (.Call (.Name "int" p) (e :: es) [] pos) (tCB rInt t) := pe_callTy call_int1 hg m PyProof.Rows.boot_int ha (by decide) (by decide) he hpl
theorem bi_tuple (m : X.mg "tuple" = none) (ha : PA X (e :: es) t) (hg : Gl X "tuple" := by rfl) (he : starEach (e :: es) X.env = (false, eval e X.env) :: starEach es X.env := by rfl) (hpl : (backTo pos (starEach es X.env)).any (·.1) = false := by rfl) :
    PE X (.Call (.Name "tuple" p) (e :: es) [] pos) (tCB (rTupOf X.K) t) := pe_callTy call_tuple_of hg m PyProof.Rows.boot_tuple ha (by decide) (by decide) he hpl
theorem bi_list (m : X.mg "list" = none) (ha : PA X (e :: es) t) (hg : Gl X "list" := by rfl) (he : starEach (e :: es) X.env = (false, eval e X.env) :: starEach es X.env := by rfl) (hpl : (backTo pos (starEach es X.env)).any (·.1) = false := by rfl) :
    PE X (.Call (.Name "list" p) (e :: es) [] pos) (tCB (rLstOf X.K) t) := pe_callTy call_list_of hg m PyProof.Rows.boot_list ha (by decide) (by decide) he hpl
end
/-- a built-in class as a value -/
theorem bt_int (m : X.mg "int" = none) (hg : Gl X "int" := by rfl) : PE X (.Name "int" pos) (tC (.ty "int")) := pe_bltn hg m PyProof.Rows.boot_int rfl (by decide) (by decide)
theorem bt_bool (m : X.mg "bool" = none) (hg : Gl X "bool" := by rfl) : PE X (.Name "bool" pos) (tC (.ty "bool")) := pe_bltn hg m PyProof.Rows.boot_bool rfl (by decide) (by decide)
theorem bt_str (m : X.mg "str" = none) (hg : Gl X "str" := by rfl) : PE X (.Name "str" pos) (tC (.ty "str")) := pe_bltn hg m PyProof.Rows.boot_str rfl (by decide) (by decide)
theorem bt_list (m : X.mg "list" = none) (hg : Gl X "list" := by rfl) : PE X (.Name "list" pos) (tC (.ty "list")) := pe_bltn hg m PyProof.Rows.boot_list rfl (by decide) (by decide)
theorem bt_tuple (m : X.mg "tuple" = none) (hg : Gl X "tuple" := by rfl) : PE X (.Name "tuple" pos) (tC (.ty "tuple")) := pe_bltn hg m PyProof.Rows.boot_tuple rfl (by decide) (by decide)
theorem bt_dict (m : X.mg "dict" = none) (hg : Gl X "dict" := by rfl) : PE X (.Name "dict" pos) (tC (.ty "dict")) := pe_bltn hg m PyProof.Rows.boot_dict rfl (by decide) (by decide)
/-- an int of the module -/
theorem pglob {x : Str} {n : Int} (hm : ∃ tk, X.mg x = some (.int n tk)) (hg : Gl X x := by rfl) (hd : (x == ("__debug__" : Str)) = false := by decide) : PE X (.Name x pos) (tC (.int n)) := by
  obtain ⟨tk, h⟩ := hm
  exact pe_glob hg h ⟨_, rfl⟩ hd
end
section
variable {W : Wd} {Γ : Gam} {K : PySem.W.Frag} {i j : Int} {b : Bool}
theorem cbt_abs : CbT W rAbs [dt K (.int i)] (dt K (.int (if i < 0 then -i else i))) := fun us H c hu Q q => by
  obtain ⟨v, rfl, h⟩ := hu.one
  cases h
  exact ⟨i, rfl, q _ H (Ex.refl _ _) (.int _)⟩
theorem cbt_max2 : CbT W rMax2 [dt K (.int i), dt K (.int j)] (dt K (.int (if j > i then j else i))) := fun us H c hu Q q => by
  obtain ⟨v, w, rfl, h, k⟩ := hu.two
  cases h
  cases k
  exact ⟨i, j, rfl, q _ H (Ex.refl _ _) (.int _)⟩
theorem cbt_min2 : CbT W rMin2 [dt K (.int i), dt K (.int j)] (dt K (.int (if j < i then j else i))) := fun us H c hu Q q => by
  obtain ⟨v, w, rfl, h, k⟩ := hu.two
  cases h
  cases k
  exact ⟨i, j, rfl, q _ H (Ex.refl _ _) (.int _)⟩
theorem cbt_intI : CbT W rInt [dt K (.int i)] (dt K (.int i)) := fun us H c hu Q q => by
  obtain ⟨v, rfl, h⟩ := hu.one
  cases h
  exact .inl ⟨i, rfl, q _ H (Ex.refl _ _) (.int _)⟩
theorem cbt_intB : CbT W rInt [dt K (.bool b)] (dt K (.int (if b then 1 else 0))) := fun us H c hu Q q => by
  obtain ⟨v, rfl, h⟩ := hu.one
  cases h
  exact .inr ⟨b, rfl, q _ H (Ex.refl _ _) (.int _)⟩
end
end Ew

end
section
set_option Elab.async false
set_option linter.all false
set_option maxRecDepth 100000
set_option maxHeartbeats 1000000
/-! EwE: comprehensions over lists of anything; more operators. -/
namespace Ew
open PySem PySem.Spec PyProof.Rows L2
section
variable {W : Wd} {Γ Γ' : Gam} {K : PySem.W.Frag} {T U A C P : Typ} {Ts Us : List Typ} {ds es : List PyData} {d : PyData} {ta : TA} {te tb : TE} {g : TG} {gs : TGs} {vs : List Nat} {α : Type} {xs : List α} {j : Nat} {wi : TI} {tt : TT}
theorem ty_andF (h1 : Ty W Γ te (dt K (.bool false))) : Ty W Γ (tAndV te tb) (dt K (.bool false)) := (ty_andV (b := false) h1 fun z => Bool.noConfusion z).is rfl
theorem ty_orTr (h1 : Ty W Γ te (dt K (.bool true))) : Ty W Γ (tOrV te tb) (dt K (.bool true)) := (ty_orV (b := true) h1 fun z => Bool.noConfusion z).is rfl
theorem tt_andF {tu : TT} (h1 : Tt W Γ tt (· = false)) : Tt W Γ (tAnd tt tu) (· = false) := (tt_andB (b := false) h1 fun z => Bool.noConfusion z).is rfl
theorem tt_orTr {tu : TT} (h1 : Tt W Γ tt (· = true)) : Tt W Γ (tOr tt tu) (· = true) := (tt_orB (b := true) h1 fun z => Bool.noConfusion z).is rfl
theorem range_map_getD (F : α → Typ) (y : α) : (List.range xs.length).map (fun i => F (xs.getD i y)) = xs.map F := by
  apply List.ext_getElem
  · simp
  · intro i h1 h2
    have hi : i < xs.length := by simpa using h2
    simp [List.getD_eq_getElem?_getD, List.getElem?_eq_getElem hi]
/-- a comprehension over what comes from xs -/
theorem tyl_mapT (A F : α → Typ) (hi : TyI W Γ wi (xs.map A)) (hz : xs.length ≤ 1000000) (gk : GOk g vs)
    (hs : ∀ (W' : Wd) x, x ∈ xs → ∃ Γi, TyG W' (wipeG Γ vs) g (A x) Γi ∧ Ty W' Γi te (F x)) : TyL W Γ (tLc wi g tYes te vs) (xs.map F) := by
  cases xs with
  | nil =>
    have h := tyl_lc1 (te := te) (fun _ => isV .non) hi (by simpa using hz) gk fun W' i T hT => by simp at hT
    simpa using h
  | cons y ys =>
    have h := tyl_lc1 (te := te) (fun i => F ((y :: ys).getD i y)) hi (by simpa using hz) gk fun W' i T hT => by
      rw [List.getElem?_map] at hT
      cases e : (y :: ys)[i]? with
      | none => rw [e] at hT; cases hT
      | some x =>
        rw [e] at hT
        cases hT
        obtain ⟨Γi, h1, h2⟩ := hs W' x (List.mem_of_getElem? e)
        refine ⟨Γi, h1, ?_⟩
        rw [List.getD_eq_getElem?_getD, e]
        exact h2
    rw [List.length_map, range_map_getD F y] at h
    exact h
/-- .. its items in the slot j -/
theorem tyl_map (A F : α → Typ) (hi : TyI W Γ wi (xs.map A)) (hz : xs.length ≤ 1000000) (hj : j ∈ vs) (hs : ∀ (W' : Wd) x, x ∈ xs → Ty W' ((wipeG Γ vs).set j (some (A x))) te (F x)) :
    TyL W Γ (tLc wi (gName j) tYes te vs) (xs.map F) := tyl_mapT A F hi hz (gok_name j hj) fun W' x hx => ⟨_, tyg_name j, hs W' x hx⟩
theorem filter_range_getD (F : α → Typ) (p : α → Bool) (y : α) : ((List.range xs.length).filter fun i => p (xs.getD i y)).map (fun i => F (xs.getD i y)) = (xs.filter p).map F := by
  have key : ∀ (l : List α), (∀ n, (List.range n).filterMap (fun i => if p (l.getD i y) = true then some (F (l.getD i y)) else none) = ((l ++ List.replicate (n - l.length) y).take n).filterMap fun x => if p x = true then some (F x) else none) := by
    intro l n
    have e : (List.range n).map (fun i => l.getD i y) = (l ++ List.replicate (n - l.length) y).take n := by
      apply List.ext_getElem
      · simp; omega
      · intro i h1 h2
        have hi : i < n := by simpa using h1
        simp only [List.getElem_map, List.getElem_range, List.getElem_take, List.getD_eq_getElem?_getD]
        by_cases hl : i < l.length
        · rw [List.getElem?_eq_getElem hl, List.getElem_append_left hl]; rfl
        · rw [List.getElem?_eq_none (by omega), List.getElem_append_right (by omega), List.getElem_replicate]; rfl
    rw [← e, List.filterMap_map]
    rfl
  have h := key xs xs.length
  rw [Nat.sub_self, List.replicate_zero, List.append_nil, List.take_length] at h
  have f1 : ∀ (l : List Nat), (l.filter fun i => p (xs.getD i y)).map (fun i => F (xs.getD i y)) = l.filterMap (fun i => if p (xs.getD i y) = true then some (F (xs.getD i y)) else none) := by
    intro l
    induction l with
    | nil => rfl
    | cons a l ih =>
      rw [List.filter_cons, List.filterMap_cons]
      by_cases c : p (xs.getD a y) = true
      · rw [if_pos c, if_pos c, List.map_cons, ih]
      · rw [if_neg c, if_neg c, ih]
  have f2 : ∀ (l : List α), (l.filter p).map F = l.filterMap (fun x => if p x = true then some (F x) else none) := by
    intro l
    induction l with
    | nil => rfl
    | cons a l ih =>
      rw [List.filter_cons, List.filterMap_cons]
      by_cases c : p a = true
      · rw [if_pos c, if_pos c, List.map_cons, ih]
      · rw [if_neg c, if_neg c, ih]
  rw [f1, f2, h]
/-- .. with a test -/
theorem tyl_filterT (A F : α → Typ) (p : α → Bool) (hi : TyI W Γ wi (xs.map A)) (hz : xs.length ≤ 1000000) (gk : GOk g vs)
    (hs : ∀ (W' : Wd) x, x ∈ xs → ∃ Γi, TyG W' (wipeG Γ vs) g (A x) Γi ∧ Tt W' Γi tt (· = p x) ∧ (p x = true → Ty W' Γi te (F x))) : TyL W Γ (tLc wi g tt te vs) ((xs.filter p).map F) := by
  cases xs with
  | nil =>
    have h := tyl_lc (te := te) (tt := tt) (fun _ => true) (fun _ => isV .non) hi (by simpa using hz) gk fun W' i T hT => by simp at hT
    simpa using h
  | cons y ys =>
    have h := tyl_lc (te := te) (tt := tt) (fun i => p ((y :: ys).getD i y)) (fun i => F ((y :: ys).getD i y)) hi (by simpa using hz) gk fun W' i T hT => by
      rw [List.getElem?_map] at hT
      cases e : (y :: ys)[i]? with
      | none => rw [e] at hT; cases hT
      | some x =>
        rw [e] at hT
        cases hT
        obtain ⟨Γi, h1, h2, h3⟩ := hs W' x (List.mem_of_getElem? e)
        refine ⟨Γi, h1, ?_, fun z => ?_⟩
        · rw [List.getD_eq_getElem?_getD, e]
          exact h2
        · rw [List.getD_eq_getElem?_getD, e] at z ⊢
          exact h3 z
    rw [List.length_map, filter_range_getD F p y] at h
    exact h
theorem tyl_filter (A F : α → Typ) (p : α → Bool) (hi : TyI W Γ wi (xs.map A)) (hz : xs.length ≤ 1000000) (hj : j ∈ vs)
    (hs : ∀ (W' : Wd) x, x ∈ xs → Tt W' ((wipeG Γ vs).set j (some (A x))) tt (· = p x) ∧ (p x = true → Ty W' ((wipeG Γ vs).set j (some (A x))) te (F x))) : TyL W Γ (tLc wi (gName j) tt te vs) ((xs.filter p).map F) :=
  tyl_filterT A F p hi hz (gok_name j hj) fun W' x hx => ⟨_, tyg_name j, hs W' x hx⟩
theorem ty_sumG {f : α → Int} (h : TyL W Γ te (xs.map fun x => dt K (.int (f x)))) : Ty W Γ (tCB (rSum K) (tCons te tNil)) (dt K (.int (xs.map f).sum)) := ty_sumOf (ns := xs.map f) (by rw [List.map_map]; exact h)
theorem ty_allG {p : α → Bool} (h : TyL W Γ te (xs.map fun x => dt K (.bool (p x)))) : Ty W Γ (tCB (rAll K) (tCons te tNil)) (dt K (.bool (xs.all p))) := (ty_allOf (bs := xs.map p) (by rw [List.map_map]; exact h)).is (by rw [List.all_map]; rfl)
theorem ty_tupG {f : α → PyData} (h : TyL W Γ te (xs.map fun x => dt K (f x))) : Ty W Γ (tCB (rTupOf K) (tCons te tNil)) (dt K (.tuple (xs.map f))) := (ty_tupOf (K := K) h).sub fun v H _ z => tupT_data (by rw [List.map_map]; exact z)
theorem ty_lstG {f : α → PyData} (h : TyL W Γ te (xs.map fun x => dt K (f x))) : Ty W Γ te (dt K (.list (xs.map f))) := h.ty.sub fun v H _ z => lstT_data (K := K) (by rw [List.map_map]; exact z)
/-- data one by one -/
theorem tyi_tupA {f : α → PyData} (h : Ty W Γ te (dt K (.tuple (xs.map f)))) : TyI W Γ (iTup K te) (xs.map fun x => dt K (f x)) := by
  have z := tyi_tupD h
  rw [List.map_map] at z
  exact z
theorem tyi_lstA {f : α → PyData} (h : Ty W Γ te (dt K (.list (xs.map f)))) : TyI W Γ (iList K te) (xs.map fun x => dt K (f x)) := by
  have z := tyi_lstD h
  rw [List.map_map] at z
  exact z
/-- zip of two tuples of data, of one length -/
theorem tyi_zipA {β γ : Type} {as : List β} {bs : List γ} {f : β → PyData} {h : γ → PyData} {tb : TE} (ha : Ty W Γ te (dt K (.tuple (as.map f)))) (hb : Ty W Γ tb (dt K (.tuple (bs.map h)))) :
    TyI W Γ (RZ.iZipA K (tCons te (tCons tb tNil))) ((as.zip bs).map fun p => tupT K [dt K (f p.1), dt K (h p.2)]) := by
  have z := tyi_zipT (W := W) (Γ := Γ) (K := K) (Ts := (as.map f).map (dt K)) (Us := (bs.map h).map (dt K)) (tya_cons (ha.sub fun _ _ _ => data_tupT) (tya_cons (hb.sub fun _ _ _ => data_tupT) tya_nil))
  have e : ((((as.map f).map (dt K)).zip ((bs.map h).map (dt K))).map fun p => tupT K [p.1, p.2]) = ((as.zip bs).map fun p => tupT K [dt K (f p.1), dt K (h p.2)]) := by
    rw [List.map_map, List.map_map, List.zip_map, List.map_map]
    rfl
  rw [e] at z
  exact z
/-- for a, b in ..: two slots -/
theorem tyg_pair {i k : Nat} : TyG W Γ (gTup K 2 (gCons (gName i) (gCons (gName k) gNil))) (tupT K [A, C]) ((Γ.set i (some A)).set k (some C)) := tyg_tup (tygs_cons (tyg_name i) (tygs_cons (tyg_name k) tygs_nil))
theorem gok_pair {i k : Nat} (hi : i ∈ vs) (hk : k ∈ vs) : GOk (gTup K 2 (gCons (gName i) (gCons (gName k) gNil))) vs := gok_tup (gok_cons (gok_name i hi) (gok_cons (gok_name k hk) gok_nil))
/-- range(n) -/
theorem tyi_rng {n : Nat} (h : TyA W Γ ta [dt K (.int (n : Nat))]) (hn : n ≤ 1000000000) : TyI W Γ (iRng1 ta) ((List.range n).map fun i => dt K (.int (i : Nat))) := by
  have z := tyi_rng1 h (by omega) (by omega)
  rw [Int.toNat_natCast] at z
  exact z
end
end Ew

end
section
set_option Elab.async false
set_option linter.all false
set_option maxRecDepth 100000
set_option maxHeartbeats 2000000
/-! EwX: an own exception class over a class whose __init__ says super().__init__(given); self.given = given. -/
namespace PySem
namespace WrX
open PySem.W PySem.Calls PyProof.Rows PySem.HandSPX
/-! ### the text of __init__ -/
def iA (p1 p2 p3 : Pos) : Arguments := { posonlyargs := [], args := [{ arg := "self", annotation := none, pos := p1 }, { arg := "given", annotation := none, pos := p2 }], vararg := none, kwonlyargs := [], kw_defaults := [], kwarg := none, defaults := [.Constant .none 0 p3] }
def iB (q1 q2 q3 q4 q5 q6 q7 q8 q9 q10 : Pos) : List Stmt := [.Expr (.Call (.Attribute (.Call (.Name "super" q1) [] [] q2) "__init__" q3) [.Name "given" q4] [] q5) q6, .Assign [.Attribute (.Name "self" q7) "given" q8] (.Name "given" q9) q10]
def iS : Scope := { kind := .function, names := [(PySem.Str.ofString "self", .local), (PySem.Str.ofString "given", .local), (PySem.Str.ofString "__class__", .free), (PySem.Str.ofString "super", .globalImplicit)], isGenerator := false, isCoroutine := false, more := [] }
abbrev veTail : List Value := [.type "ValueError", .type "Exception", .type "BaseException", .type "object"]
/-- what the written part says of the class D of the text, its __init__ at fI -/
structure BaseTxt (prog : Program) (K : Frag) (mg : Str → Option Value) (D fI : Addr) : Prop where
  fn : ∃ (oc : Value) (od : Option Addr) (Td : Addr) (kV doc pm : Value) (an : Option Addr) (cda cc : Addr) (ct : Value) (osl : Array (Option Value)) (p1 p2 p3 q1 q2 q3 q4 q5 q6 q7 q8 q9 q10 : Pos) (ccl cl : Value) (cdd cld : Option Addr) (vs : Array Value) (ccs csl : Array (Option Value)) (file : Str) (tf : Tok) (tc : Value) (td : Option Addr) (nT : Nat) (tsl : Array (Option Value)),
    K.lookup fI = some ⟨oc, od, .func (ksFn "__init__" "WrapError.__init__" (iA p1 p2 p3) (iB q1 q2 q3 q4 q5 q6 q7 q8 q9 q10) iS (.ref Td) kV doc pm an (.ref cda) ct cc), osl⟩ ∧ codeIn K (.ref cda) "WrapError.__init__" = true ∧
    K.lookup cda = some ⟨ccl, cdd, .fields vs, ccs⟩ ∧ vs[2]? = some (.str file tf) ∧ ((prog.main.file : Str) == file) = true ∧ K.lookup cc = some ⟨cl, cld, .cell (some (.ref D)), csl⟩ ∧ K.lookup Td = some ⟨tc, td, .seq #[.none] nT, tsl⟩ ∧ (q3.endLine == q5.line) = true
  cD : ∃ cdD, clsIn K D = some cdD
  mS : mg "super" = none
  top : (prog.main.scope.names.lookup ("super" : Str)).isSome = false
  any : nsIn K cStatics "thirdparty.any" = some none
/-- .. of a class C over it, without an __init__ of its own -/
structure ClsTxt (K : Frag) (mg : Str → Option Value) (nm : Str) (D fI C : Addr) : Prop where
  gC : mg nm = some (.ref C)
  cls : ∃ nm q N bs sn sub ab col dd k0 k1 k2 k3 k5, K.lookup C = some (excClassObj nm q C N bs (.ref D :: veTail) true sn sub ab col dd k0 k1 k2 k3 k5 "ValueError.__new__")
  sa : findIn K (.ref C) "__setattr__" = some (some (.builtin "object.__setattr__"))
  noN : findIn K (.ref C) "given" = some none
  iC : findIn K (.ref C) "__init__" = some (some (.ref fI))
  tI : typeIn K (.ref fI) = some (.type "function")
  kC : keepIn K (.ref C) = true
  exC : subIn K (.ref C) (.type "BaseException") = some true
  veC : subIn K (.ref C) (.type "ValueError") = some true
  tyC : typeIn K (.ref C) = some (.type "type")
  ne : C ≠ D
theorem one_size (v : Value) : [v].length ≤ sizeLine := by
  rw [sizeLine_eq]
  exact (by decide : 1 ≤ 16777216)
theorem refs (D : Addr) : refsVE (.ref D :: veTail) = true := by
  show refsVE veTail = true
  decide +kernel
theorem refs_two (C D : Addr) : refsVE (.ref C :: .ref D :: veTail) = true := by
  show refsVE veTail = true
  decide +kernel
theorem mro_has {K : Frag} {C D : Addr} {cd : ClassData} (hcd : clsIn K C = some cd) (hm : cd.mro = .ref C :: .ref D :: veTail) : mroIn K C (.ref D) = some true := by
  unfold mroIn
  rw [hcd, Option.bind_some, hm, if_neg (show ¬ (List.isEmpty (Value.ref C :: Value.ref D :: veTail) = true) from Bool.false_ne_true)]
  simp
theorem drop_to {C D : Addr} (h : C ≠ D) (l : List Value) : ((Value.ref C :: Value.ref D :: l).dropWhile (· != .ref D)).drop 1 = l := by
  have e : (Value.ref C != Value.ref D) = true := by simp [h]
  rw [List.dropWhile_cons, if_pos e, List.dropWhile_cons, if_neg (by simp)]
  rfl
theorem along_ve (K : Frag) : alongIn K "__init__" veTail = some (some (.builtin "ValueError.__init__")) := by kernel_rfl
section
variable {prog : Program} {w : World} {A : Around} {E : Value → Shared → Prop} {R : Result → Shared → Prop} {s : Shared} {K : Frag} {mg mb : Str → Option Value} {C D fI fJ : Addr}
/-- the bound ValueError.__init__ is called -/
theorem call_mw {h : Heap} {g : Array GenState} {d : Drawn} {t : Nat} {os : OsState} {nm q : Str} {N : Addr} {bs bm : List Value} {hdct : Bool} {sn : List Str} {sub : List Value} {ab : Bool} {col : Option Bool} {dd : Option Addr} {k0 k1 k2 k3 k5 : Option Value} {u e t0 : Addr} {rest : List Value} {Q : Value → Shared → Prop}
    (hC : h.get? C = some (excClassObj nm q C N bs bm hdct sn sub ab col dd k0 k1 k2 k3 k5 "ValueError.__new__")) (he : h.get? e = some (excO C t0)) (hu : h.get? u = some (kxs_mw "ValueError.__init__" e)) (hrest : rest.length ≤ sizeLine)
    (hq : ∀ h' t1, (∀ b o, b ≠ e → h.get? b = some o → h'.get? b = some o) → h'.get? e = some (excO C t1) → Q .none ⟨h', g, d, t, os⟩) :
    wpAny (model prog w) A (call (.ref u) rest) Q E ⟨h, g, d, t, os⟩ := by
  refine wpAny_call (codeAny_of_tree ?_)
  show wpAny _ A.in1 (callAny (.ref u) ⟨rest, []⟩) _ _ _
  simp only [callAny]
  refine wpAny_bind (wpAny_load hu ?_)
  simp only [kxs_mw, show (Value.type "method-wrapper" == Value.type "method" || Value.type "method-wrapper" == Value.type "builtin_function_or_method" || Value.type "method-wrapper" == Value.type "method-wrapper") = true by decide, if_true]
  refine KFB.if_so (by decide) ?_
  refine wpAny_bind (check_bound_init F.excBase_ValueError.toExcCallFacts hC he rfl ?_)
  refine wpAny_bind (wpAny_pure (wpAny_pure ?_))
  refine ⟨plainId_quiet F.excBase_ValueError.init.plain _, codeAny_builtin F.excBase_ValueError.initEntry ?_⟩
  rw [Around.under_plainId F.excBase_ValueError.init.plain _]
  exact exc_init_tree (cls := .ref C) (t0 := t0) (dv := none) (c2 := .none) (c3 := .none) (b4 := .bool false) he hrest fun h' k hx _ => hq h' _ k hx
theorem callWith_mw {pos : Pos} {u x : Addr} {env : Env} {e : Expr} {rest : List Expr} {Q : Value → Shared → Prop}
    (h : wpAny (model prog w) A (spliced (backTo pos (starEach (e :: rest) env))) (fun vs s₁ => KxsAt "ValueError.__init__" u x s₁.heap ∧ wpAny (model prog w) A (call (.ref u) vs) Q E s₁) E s)
    (he : starEach (e :: rest) env = (false, eval e env) :: starEach rest env := by rfl) (hplain : (backTo pos (starEach rest env)).any (·.1) = false := by rfl) :
    wpAny (model prog w) A (callWith pos (.ref u) [] (backTo pos (starEach (e :: rest) env)) []) Q E s := by
  rw [he] at h ⊢
  refine kxs_callWith (i := "ValueError.__init__") (x := x) (by show (false || (backTo pos (starEach rest env)).any (·.1)) = false; rw [hplain]; rfl) ?_
  exact evalArgs_plain h
/-- what __init__ leaves of a fresh exception at x -/
structure InitEnd (h h' : Heap) (x C dx t1 : Addr) (v : Value) : Prop where
  keep : ∀ b o, b ≠ x → h.get? b = some o → h'.get? b = some o
  obj : h'.get? x = some { cls := .ref C, dict := some dx, data := .fields #[.ref t1, .none, .none, .none, .bool false, .none] }
  dbig : h.objs.size ≤ dx
  dne : dx ≠ x
  ns : h'.Ns1 dx (fun y => if y = "given" then some v else none)
/-- a made one -/
structure OwnMade (h h' : Heap) (e C d : Addr) (v : Value) : Prop where
  keep : ∀ b o, h.get? b = some o → h'.get? b = some o
  new : h.objs.size ≤ e
  obj : ∃ oe vs, h'.get? e = some oe ∧ oe.cls = .ref C ∧ oe.dict = some d ∧ oe.data = .fields vs ∧ vs[1]? = some .none
  dbig : h.objs.size ≤ d
  dne : d ≠ e
  ns : h'.Ns1 d (fun y => if y = "given" then some v else none)
theorem boot_super : bootBuiltins "super" = some (.type "super") := by first | rfl | kernel_rfl
theorem ksLd {M : Model} {name : Str} {scope : Scope} {L a cc : Addr} {cd : Value} {m : Str → Option Value} {x : Str} {pos : Pos} {v : Value} {Q : Value → Shared → Prop} (hn : s.heap.Ns L m) (hv : m x = some v) (h : Q v s)
    (hk : scope.kind = .function := by rfl) (hl : (ksEnv name scope L a cd cc).kindOf x = some .local := by rfl) (hd : (x == ("__debug__" : Str)) = false := by decide) :
    wpAny M A (eval (.Name x pos) (ksEnv name scope L a cd cc)) Q E s := wpAny_Name (wpAny_loadName_local hk hl hn hv h) hd
theorem kept_but {h h' : Heap} {x : Addr} (X : K.In h) (hx : K.lookup x = none) (k : ∀ b o, b ≠ x → h.get? b = some o → h'.get? b = some o) : K.In h' := fun a o e =>
  k a o (fun z => by rw [z, hx] at e; cases e) (X a o e)
theorem he_line {o : Expr} {name : Str} {apos pos p4 : Pos} {x : Str} {env : Env} (hl : (apos.endLine == pos.line) = true) :
    eval (.Call (.Attribute o name apos) [.Name x p4] [] pos) env = (do
      let ov ← attributeBase o name env (eval o env)
      standAt apos.atName
      let (f, first) ← holding [ov] (getMethod ov name (L2.plainOf o env))
      callWith pos f first (backTo pos (starEach [.Name x p4] env)) []) := by
  have e : eval (.Call (.Attribute o name apos) [.Name x p4] [] pos) env = (do
    let ov ← attributeBase o name env (eval o env)
    standAt apos.atName
    methodCall o name apos pos env ov (List.length [Expr.Name x p4] + List.length ([] : List Keyword)) (backTo pos (starEach [.Name x p4] env)) (backToKw pos (keywordEach [] env))) := rfl
  rw [e]
  congr 1
  funext ov
  congr 1
  funext u
  exact L2.mcall_line rfl hl
theorem we_init {nm : Str} (Bt : BaseTxt prog K mg D fI) (T : ClsTxt K mg nm D fJ C) {x t0 : Addr} {v : Value} (X : K.In s.heap) (hlim : s.heap.NoLimit) (G : s.heap.Ns mainGlobals mg) (GB : ∃ mb, s.heap.Ns builtinsNs mb ∧ ∀ x : Str, x ≠ "__name__" → mb x = bootBuiltins x)
    (hx : s.heap.get? x = some (excO C t0)) (hnx : K.lookup x = none) (hroom : A.depth < recursionLimit)
    (hq : ∀ h' tk dx t1, InitEnd s.heap h' x C dx t1 v → R (.ok (.ret .none)) { s with heap := h', toks := tk }) :
    codeAny (model prog w) A (.call (.ref fI) ⟨[.ref x, v], []⟩) R s := by
  obtain ⟨oc, od, Td, kV, doc, pm, an, cda, cc, ct, osl, p1, p2, p3, q1, q2, q3, q4, q5, q6, q7, q8, q9, q10, ccl, cl, cdd, cld, vs, ccs, csl, file, tf, tc, td, nT, tsl, ho, hcd, hcode, hvs, hfile, hcell, hT, hline⟩ := Bt.fn
  obtain ⟨nm', q, N, bs, sn, sub, ab, col, dd, k0, k1, k2, k3, k5, hC⟩ := T.cls
  have hcl : clsIn K C = some { name := nm', bases := bs, mro := .ref C :: .ref D :: veTail, ns := N, qualname := q, hasDict := true, slotNames := sn, subclasses := sub, abstract := ab, collection := col, hasDel := false } := by unfold clsIn; rw [hC] <;> rfl
  obtain ⟨cdD, hD⟩ := Bt.cD
  obtain ⟨mb, hbn, hbm⟩ := GB
  obtain ⟨hp, g, d, t, os⟩ := s
  have hxC : x ≠ C := fun z => by rw [z, hC] at hnx; cases hnx
  refine ks_codeAny_call_defAt (fd := ksFn "__init__" "WrapError.__init__" (iA p1 p2 p3) (iB q1 q2 q3 q4 q5 q6 q7 q8 q9 q10) iS (.ref Td) kV doc pm an (.ref cda) ct cc) (body := iB q1 q2 q3 q4 q5 q6 q7 q8 q9 q10) (binds := [("self", .ref x), ("given", v)])
    hroom (X _ _ ho) rfl hlim (codeRec_of X hcd) rfl (L2.BindsTo.of_looks fun M => ?bind) ?cell ?loc (fun h₁ hns₁ k₁ => ?_) rfl rfl rfl
  case bind =>
    refine L2.looks_items (α := List (Str × Value)) X hT rfl (Looks.of_pure ?_)
    rfl
  case cell =>
    intro y hy
    rcases List.mem_cons.mp hy with rfl | hy
    · exact fun z => by cases z
    rcases List.mem_cons.mp hy with rfl | hy
    · exact fun z => by cases z
    rcases List.mem_cons.mp hy with rfl | hy
    · exact fun z => by cases z
    rcases List.mem_cons.mp hy with rfl | hy
    · exact fun z => by cases z
    cases hy
  case loc =>
    intro y hy
    rcases List.mem_cons.mp hy with rfl | hy
    · rfl
    rcases List.mem_cons.mp hy with rfl | hy
    · rfl
    cases hy
  have X₁ : K.In h₁ := X.keeps k₁
  have hx₁ := k₁ _ _ hx
  have hxL : hp.objs.size ≠ x := Nat.ne_of_gt (Heap.lt_size hx)
  obtain ⟨oD, hD1, hD2⟩ : ∃ oD, h₁.get? D = some oD ∧ oD.data = .cls cdD := by
    unfold clsIn at hD
    split at hD
    · rename_i c d cd' sl ho
      cases hD
      exact ⟨_, X₁ _ _ ho, rfl⟩
    · cases hD
  show _root_.PySem.wpAt (model prog w) _ (.func (iB q1 q2 q3 q4 q5 q6 q7 q8 q9 q10) (ksEnv "WrapError.__init__" iS hp.objs.size fI (.ref cda) cc)) (execs (iB q1 q2 q3 q4 q5 q6 q7 q8 q9 q10) (ksEnv "WrapError.__init__" iS hp.objs.size fI (.ref cda) cc)) _ _ _
  refine ks_wpAt_execs_cons ?_
  refine ks_wpAt_Expr_any ?_
  refine ks_wpAt_MethodCall (pl := L2.plainOf (.Call (.Name "super" q1) [] [] q2) (ksEnv "WrapError.__init__" iS hp.objs.size fI (.ref cda) cc)) ?_ (he_line hline)
  refine (ks_wpAt_super_base (env := ksEnv "WrapError.__init__" iS hp.objs.size fI (.ref cda) cc) rfl rfl (by decide) rfl (X₁ _ _ ho) rfl rfl rfl (X₁ _ _ hcode) rfl hvs hfile Bt.top ?_)
  refine ks_loadName_global rfl rfl (loadGlobal_builtin (env := ksEnv "WrapError.__init__" iS hp.objs.size fI (.ref cda) cc) (G.keeps k₁) Bt.mS (hbn.keeps k₁) ((hbm _ (by decide)).trans boot_super) ⟨rfl, ?_⟩)
  refine wpAny_loadName_free rfl rfl rfl ⟨_, X₁ _ _ hcell, rfl⟩ ?_
  refine wpAny_loadName_local (v := .ref x) rfl rfl hns₁ rfl ?_
  refine ks_wpAny_isType_cls hD1 hD2 ⟨rfl, ?_⟩
  refine ks_wpAny_call_super hD1 hD2 hx₁ rfl (fun c e => by cases e) (looks_mroIn X₁ (mro_has hcl rfl)) (fun h₂ hso k₂ => ?_)
  have X₂ : K.In h₂ := X₁.keeps k₂
  have hx₂ := k₂ _ _ hx₁
  have I₂ : InstAt h₂ x (excO C t0) C none := ⟨hx₂, rfl, rfl, trivial⟩
  refine kxs_getMethod kxs_ValueError hso (looks_opaque X₂ Bt.any) (l₀ := .ref C :: .ref D :: veTail) (fun A Q E s k q => wpAny_bind ((looks_clsIn X₂ hcl) A _ E s k (wpAny_pure q))) (drop_to T.ne _) X₂ (along_ve K) (I₂.type.andThen (looks_subIn X₂ T.veC)) hxC (by decide) ?_
  have k₃ : ∀ b o, h₂.get? b = some o → (h₂.push (kxs_mw "ValueError.__init__" x)).get? b = some o := fun b o e => Heap.get?_push_of_some _ e
  have hu : (h₂.push (kxs_mw "ValueError.__init__" x)).get? h₂.objs.size = some (kxs_mw "ValueError.__init__" x) := Heap.get?_push_at rfl rfl
  have hns₃ := (hns₁.keeps k₂).keeps k₃
  refine callWith_mw (u := h₂.objs.size) (x := x) ?_
  refine spliced_more ?_
  refine ksLd (v := v) hns₃ rfl ?_
  refine spliced_none ⟨hu, ?_⟩
  have k03 : ∀ b o, hp.get? b = some o → (h₂.push (kxs_mw "ValueError.__init__" x)).get? b = some o := fun b o e => k₃ b o (k₂ b o (k₁ b o e))
  refine call_mw (e := x) (k03 _ _ (X _ _ hC)) (k03 _ _ hx) hu (one_size v) (fun h₄ t1 k₄ hx₄ => ?_)
  have k04 : ∀ b o, b ≠ x → hp.get? b = some o → h₄.get? b = some o := fun b o hb e => k₄ b o hb (k03 b o e)
  have X₄ : K.In h₄ := kept_but X hnx k04
  have hns₄ : h₄.Ns hp.objs.size (fun y => List.lookup y [(PySem.Str.ofString "self", Value.ref x), (PySem.Str.ofString "given", v)].reverse) := by
    obtain ⟨oL, es, ep, hL, r⟩ := hns₃
    exact ⟨oL, es, ep, k₄ _ _ hxL hL, r⟩
  -- self.given = given
  refine ks_wpAt_execs_cons (_root_.PySem.wpAt_of_wpAny (plainObj_wpAny_Assign_Attribute ?_))
  refine ksLd (v := v) hns₄ rfl (ksLd (v := .ref x) hns₄ rfl ?_)
  refine set_plain X₄ (ox := excO C t1) (od := none) ⟨hx₄, rfl, rfl, trivial⟩ T.sa ?_
  refine exc_osa X₄ hx₄ hcl (refs_two C D) rfl T.noN (fun h₅ tk₅ dx k₅ dn dne hx₅ hn₅ => ?_)
  refine _root_.PySem.wpAt_of_wpAny (wpAny_execs_nil (hq h₅ tk₅ dx t1 ⟨fun b o hb e => k₅ b o hb (k04 b o hb e), hx₅, Nat.le_trans ?_ dn, dne, hn₅⟩))
  obtain ⟨oL, es, ep, hL, r⟩ := hns₄
  exact Nat.le_of_lt (Heap.lt_size hL)
theorem we_made {nm : Str} (Bt : BaseTxt prog K mg D fI) (T : ClsTxt K mg nm D fI C) {v : Value} (X : K.In s.heap) (hlim : s.heap.NoLimit) (G : s.heap.Ns mainGlobals mg) (GB : ∃ mb, s.heap.Ns builtinsNs mb ∧ ∀ x : Str, x ≠ "__name__" → mb x = bootBuiltins x) (hroom : A.depth + 1 < recursionLimit)
    (hq : ∀ h' tk e d, OwnMade s.heap h' e C d v → R (.ok (.ret (.ref e))) { s with heap := h', toks := tk }) :
    codeAny (model prog w) A (.call (.ref C) ⟨[v], []⟩) R s := by
  obtain ⟨nm', q, N, bs, sn, sub, ab, col, dd, k0, k1, k2, k3, k5, hC⟩ := T.cls
  obtain ⟨hp, g, dr, tk, os⟩ := s
  have k : ∀ b o, hp.get? b = some o → ((hp.push (kdv_tup [v])).push (excO C hp.objs.size)).get? b = some o := fun b o e => Heap.get?_push_of_some _ (Heap.get?_push_of_some _ e)
  have hget : ((hp.push (kdv_tup [v])).push (excO C hp.objs.size)).get? (hp.objs.size + 1) = some (excO C hp.objs.size) := by heap_get
  have hnx : K.lookup (hp.objs.size + 1) = none := by
    cases e : K.lookup (hp.objs.size + 1) with
    | none => rfl
    | some o =>
      have z : hp.get? (hp.objs.size + 1) = some o := X _ _ e
      exact absurd (Nat.lt_of_succ_lt (Heap.lt_size z)) (Nat.lt_irrefl _)
  refine call_own F.excBase_ValueError (fun X => refsVE_contains X _ (refs D)) (X _ _ hC) (looks_findIn X T.iC) (fun self => bind_fn X self T.tI) (one_size v) ?_
  obtain ⟨mb, hb1, hb2⟩ := GB
  refine we_init (s := ⟨(hp.push (kdv_tup [v])).push (excO C hp.objs.size), g, dr, tk, os⟩) Bt T (X.keeps k) (hlim.keeps k) (G.keeps k) ⟨mb, hb1.keeps k, hb2⟩ hget hnx ?_ fun h' tk' dx t1 ⟨k', hx, dn, dne, hns⟩ => ?_
  · show A.depth + 1 < recursionLimit
    exact hroom
  · have old : ∀ b o, hp.get? b = some o → h'.get? b = some o := fun b o e => k' b o (Nat.ne_of_lt (Nat.lt_succ_of_lt (Heap.lt_size e))) (k b o e)
    have z : hp.objs.size + 1 + 1 ≤ dx := by
      first
        | (simpa only [Heap.size_push] using dn)
        | exact dn
        | (have q := dn; rw [Heap.size_push, Heap.size_push] at q; exact q)
    exact ⟨rfl, hq h' tk' (hp.objs.size + 1) dx ⟨old, Nat.le_succ _, ⟨_, _, hx, rfl, rfl, rfl, rfl⟩, Nat.le_trans (Nat.le_trans (Nat.le_succ _) (Nat.le_succ _)) z, dne, hns⟩⟩
end
end WrX
end PySem
namespace L2
open PySem PySem.Spec PyProof.Rows
theorem relO_giv {v : V} {v' : Value} (r : RelV v v') (f : Str) : RelO (List.lookup f [(("given" : Str), v)]) (if f = "given" then some v' else none) := by
  by_cases hw : f = "given"
  · subst hw
    rw [if_pos rfl]
    have q : List.lookup ("given" : Str) [(("given" : Str), v)] = some v := by simp [List.lookup]
    rw [q]
    exact r
  · rw [if_neg hw]
    have qw : (f == ("given" : Str)) = false := by simpa using hw
    have q2 : List.lookup f [(("given" : Str), v)] = none := by simp [List.lookup, qw]
    rw [q2]
    trivial
section
variable {X : Cx} {D C fI : Addr} {nm : Str}
/-- C(e) -/
def tMkW (C : Addr) (ta : TA) : St → Hp → XK → Prop := fun σ H Q => ta σ H fun vs H1 => ∃ v, vs = [v] ∧ ∀ d, H1 d = none → Q (.ref C) (some d) (upd H1 d (.xd [(("given" : Str), v)]))
theorem pmk_wr {a : Expr} {ta : TA} {p pos : Pos} {k : Nat} (Bt : PySem.WrX.BaseTxt X.prog X.K X.mg D fI) (T : PySem.WrX.ClsTxt X.K X.mg nm D fI C) (hr : Room k X.A) (ha : PA X [a] ta) (hg : Gl X nm := by rfl) (hdb : (nm == ("__debug__" : Str)) = false := by decide)
    (he : starEach (a :: []) X.env = (false, eval a X.env) :: starEach [] X.env := by rfl) (hpl : (backTo pos (starEach [] X.env)).any (·.1) = false := by rfl) :
    PMk X (.Call (.Name nm p) [a] [] pos) (tMkW C ta) := by
  intro pins s σ H Q I h
  refine wpAny_Call_Name_kw (ld_glob I hg T.gC ?_ hdb)
  refine PySem.W.callWith_K (h₀ := X.base) I.ok.mod.kin T.kC (thn (ha.run pos pins s σ H _ I h) fun us s1 hh => ?_) he hpl
  obtain ⟨vs, H1, I1, r1, v, ev, q1⟩ := hh
  subst ev
  refine ⟨I1.kIn, ?_⟩
  cases r1 with
  | cons rv rn =>
    rename_i v' us'
    cases rn
    show wpAny _ _ (call (.ref C) [v']) _ _ _
    have hlim := I1.nolimit
    obtain ⟨mb, hb1, hb2⟩ := I1.mod.blt
    have hG := I1.mod.glob.keeps I1.bk
    have hB := hb1.keeps I1.bk
    have hK := I1.kIn
    obtain ⟨hp, g, dr, tk, os⟩ := s1
    refine wpAny_call (PySem.WrX.we_made Bt T hK hlim hG ⟨mb, hB, hb2⟩ (by have := hr.dp; omega) fun h' tk' e d M => ?_)
    show MkP X pins σ Q (.ref e) ⟨h', g, dr, tk', os⟩
    obtain ⟨oe, fv, hoe, hc, hd, hdat, h1⟩ := M.obj
    have hns := M.ns
    obtain ⟨G', g1, g2⟩ := restrict h' fun b => decide (b ≠ e)
    have gk : ∀ b, b ≠ e → G'.get? b = h'.get? b := fun b hb => g1 b (decide_eq_true hb)
    have ge : G'.get? e = none := g2 e (by simp)
    have old : ∀ b o, hp.get? b = some o → G'.get? b = some o := fun b o q => (gk b (Nat.ne_of_lt (Nat.lt_of_lt_of_le (Heap.lt_size q) M.new))).trans (M.keep b o q)
    have ob : ObjOk X.prog X.w (upd H1 d (.xd [(("given" : Str), v)])) G' d (.xd [(("given" : Str), v)]) :=
      ⟨_, hns.at (fun o q => (gk d M.dne).trans q), fun f => relO_giv rv f⟩
    have J : Inv X pins σ (upd H1 d (.xd [(("given" : Str), v)])) ⟨G', g, dr, tk', os⟩ := I1.laid (t' := tk') old M.dbig ob
    refine ⟨e, oe, fv, ⟨G', g, dr, tk', os⟩, _, .ref C, some d, rfl, J, fun b o q => ?_, ge, hoe, ⟨hc, hd⟩, hdat, h1, ?_, rfl, I1.bare, raises_own T.exC T.tyC, q1 d (I1.hok.fresh M.dbig)⟩
    · by_cases hb : b = e
      · have q' : G'.get? b = some o := q
        rw [hb, ge] at q'; cases q'
      · exact (gk b hb).symm.trans q
    · rw [upd_ne (Ne.symm M.dne)]
      exact I1.hok.fresh M.new
/-- raise C(e) -/
def tRaiseW (C : Addr) (W : WX) (ta : TA) : TS := fun _ σ H => tMkW C ta σ H fun cls d H' => W cls d σ H'
theorem ps_raiseW {a : Expr} {ta : TA} {W : WX} {p pos pos2 : Pos} {k : Nat} (hc : X.calm = true) (Bt : PySem.WrX.BaseTxt X.prog X.K X.mg D fI) (T : PySem.WrX.ClsTxt X.K X.mg nm D fI C) (hr : Room k X.A) (tk : Takes X W) (ha : PA X [a] ta) (hg : Gl X nm := by rfl) (hdb : (nm == ("__debug__" : Str)) = false := by decide)
    (he : starEach (a :: []) X.env = (false, eval a X.env) :: starEach [] X.env := by rfl) (hpl : (backTo pos (starEach [] X.env)).any (·.1) = false := by rfl) :
    PS X (.Raise (some (.Call (.Name nm p) [a] [] pos)) none pos2) (tRaiseW C W ta) := ps_raise hc tk (pmk_wr Bt T hr ha hg hdb he hpl)
end
end L2

end
section
set_option Elab.async false
set_option linter.all false
set_option maxRecDepth 100000
set_option maxHeartbeats 2000000
/-! EwY: several except clauses with names; defs that raise, by types; calls with keywords only. -/
namespace L2
open PySem PySem.Spec PyProof.Rows
abbrev Hdl := Value × Nat × (Addr → Value → Option Addr → TS)
def wManyA (K : PySem.W.Frag) (Wout : WX) (D : Ends) : List Hdl → WX
  | [] => Wout
  | (c, i, ts) :: r => fun cls d σ H => ∃ b, PySem.W.exmOne K cls c = some b ∧
    (b = true → ∀ a, H a = none → ts a cls d { nx := fun σ' H' => D.nx (σ'.set i none) H', rt := D.rt, bk := fun σ' H' => D.bk (σ'.set i none) H', ct := fun σ' H' => D.ct (σ'.set i none) H' } (σ.set i (some (.ref a))) H) ∧ (b = false → wManyA K Wout D r cls d σ H)
inductive HdsA (X : Cx) : List ExceptHandler → List Hdl → Prop
  | nil : HdsA X [] []
  | cons {x n : Str} {c : Value} {i : Nat} {ts : Addr → Value → Option Addr → TS} {b₀ : Stmt} {suite : List Stmt} {np pos' : Pos} {hds : List ExceptHandler} {l : List Hdl} (hi : X.N[i]? = some n) (hln : X.env.kindOf n = some .local) (hc : Names X x c)
      (hsu : ∀ (a : Addr) (oe : Obj) (cls : Value) (d : Option Addr) (pn : List (Addr × Obj)), Zc cls d oe → (∃ vs, oe.data = .fields vs) → PSs (X.suite a ((a, oe) :: pn)) (b₀ :: suite) (ts a cls d)) (r : HdsA X hds l) :
      HdsA X (.ExceptHandler (some (.Name x np)) (some n) (b₀ :: suite) pos' :: hds) ((c, i, ts) :: l)
  /-- the clauses behind are never asked -/
  | stop {hds : List ExceptHandler} : HdsA X hds [(.none, 0, fun _ _ _ => tNext)]
/-- try .. except ..: tb the body -/
def tTry (K : PySem.W.Frag) (Wout : WX) (l : List Hdl) (tb : WX → TS) : TS := fun D σ H => tb (wManyA K Wout D l) D σ H
section
variable {X : Cx} {body : List Stmt} {h₀ : ExceptHandler} {hds : List ExceptHandler} {l : List Hdl} {pos : Pos} {tb : WX → TS} {Wout : WX}
theorem ps_try_manyA (hs : X.stack = X.env :: X.outer) (hf : X.env.frame = some X.env.locals) (hN : X.N.Nodup) (tk : Takes X Wout)
    (hb : ∀ (W : WX) (pn : List (Addr × Obj)) (xe : Value → Shared → Prop), Takes (X.tr pn xe) W → PassesOwn (model X.prog X.w) X.A X.env xe → PSs (X.tr pn xe) body (tb W))
    (hh : HdsA X (h₀ :: hds) l) : PS X (.Try body (h₀ :: hds) [] [] pos) (tTry X.K Wout l tb) := by
  refine ⟨fun pins s σ H D I h => ?_⟩
  have ok := I.ok
  have hfr : X.A.frames = some (X.env :: X.outer) := by rw [ok.frames, hs]
  refine wpAny_Try_except ?_
  refine wpAny_mono ((hb (wManyA X.K Wout D l) (X.pn ++ pins) (fun e s₁ => wpAny (model X.prog X.w) X.A (noteFrame e X.env) (fun _ s₂ => wpAny (model X.prog X.w) X.A (setFlight e none) (fun _ s₃ =>
    wpAny (model X.prog X.w) X.A (handleBy e X.env (h₀ :: hds)) (SP X pins D) X.xe s₃) X.xe s₂) X.xe s₁) (fun u s' xx => ?_) PassesOwn.looking).run [] s σ H D (I.toTry _) h) (fun f s1 hsp => ?_) (fun e s1 he => he)
  · -- the catch
    obtain ⟨a, B, sI, pins', σ', H', cls, d, rfl, J', nb, up, sky, na, os, ag, w⟩ := xx
    have J : Inv X pins σ' H' sI := J'.ofTry ok
    have sky' : Sky B (X.env :: X.outer) a (Zc cls d) X.env.locals s'.heap := by rw [← hs]; exact sky
    show wpAny (model X.prog X.w) X.A (noteFrame (.ref a) X.env) _ _ _
    refine Sky.land Zc.steady hfr hf sky' fun h3 fl3 up3 => ?_
    have J3 : Inv X pins σ' H' { s' with heap := h3 } := J.landed nb fl3.1 (up.trans up3) os ag
    obtain ⟨oe3, vs3, he3, hz3, hd3⟩ := fl3.there
    have notFr : ∀ {h : Heap} {o : Obj} {vs : Array Value}, h.FunFrames B (X.env :: X.outer) → h.get? a = some o → o.data = .fields vs → a ∉ frs (X.env :: X.outer) := fun {h o vs} ff e dd hm => by
      obtain ⟨_, o', e', hnf⟩ := ff.mem hm
      rw [e] at e'; cases e'
      exact hnf _ dd
    have nfr := notFr fl3.2.2.1 he3 hd3
    have nL : a ≠ X.env.locals := fun z => nfr (List.mem_filterMap.mpr ⟨X.env, List.mem_cons_self, by rw [hf, z]⟩)
    have nF : a ∉ X.fs := fun hm => by
      obtain ⟨e, he, q⟩ := List.mem_filterMap.mp hm
      exact nfr (List.mem_filterMap.mpr ⟨e, List.mem_cons_of_mem _ he, q⟩)
    have S3 := J3.suite he3 hd3 na nL nF
    have go : ∀ {hds' : List ExceptHandler} {l' : List Hdl}, HdsA X hds' l' → wManyA X.K Wout D l' cls d σ' H' →
        wpAny (model X.prog X.w) X.A (handleBy (.ref a) X.env hds') (SP X pins D) X.xe { s' with heap := h3 } := by
      intro hds' l' hk
      induction hk with
      | stop =>
        intro w
        obtain ⟨b, hb, _⟩ := w
        cases hb
      | nil =>
        intro w
        refine wpAny_handleBy_nil ?_
        obtain ⟨k1, k2, k3, oe, vs, T, oT, ts', he, hz, hd, h1, hr⟩ := id fl3
        unfold PySem.passOn
        refine wpAny_bind (wpAny_field he hd h1 ?_)
        rw [if_neg (show ¬ ((Value.ref T == Value.none) = true) from by simp)]
        have fin : wpAny (model X.prog X.w) X.A (setFlight (.ref a) X.env.frame) (fun _ s4 => wpAny (model X.prog X.w) X.A (throw (.ref a) : Sem Flow) (SP X pins D) X.xe s4) X.xe { s' with heap := h3 } := by
          rw [hf]
          refine HandSPX.setFlight_upZ fl3 fun h4 hh4 up4 => wpAny_throw (tk _ _ ?_)
          exact ⟨a, B, sI, pins, σ', H', cls, d, rfl, J, nb, (up.trans up3).trans up4, .inr (.inr (by rw [hs]; exact hh4)), na, os, ag, w⟩
        first
          | exact wpAny_bind (wpAny_pure (wpAny_bind fin))
          | exact wpAny_bind fin
      | @cons x n c i ts b₀ suite np pos' hds2 l2 hi hln hc hsu r ih =>
        intro w
        have hloc : Loc X.env.scope n := .inl hln
        obtain ⟨b, hb1, hyes, hno⟩ := w
        refine wpAny_handleBy_cons (codeAny_handlers_test ?_) (by intro q; cases q)
        have LT : PySem.W.Looks (model X.prog X.w) h3 (typeOf (.ref a)) cls := fun A Q E s k q => wpAny_typeOf_ref (k _ _ he3) (by rw [hz3.1]; exact q)
        have LM := PySem.W.exm_one (M := model X.prog X.w) (J3.kIn) LT hb1
        have test : ∀ {Q : Value → Shared → Prop} {E : Value → Shared → Prop}, Q c { s' with heap := h3 } → wpAny (model X.prog X.w) (X.A.mark (some (.ref a))) (eval (.Name x np) X.env) Q E { s' with heap := h3 } := fun {Q E} q => by
          obtain ⟨hg, hdbg, hm | ⟨hm, hv, hnn⟩⟩ := hc
          · exact ld_glob (X := X.suite a ((a, oe3) :: (X.pn ++ pins))) S3 hg hm q hdbg
          · exact ld_blt (X := X.suite a ((a, oe3) :: (X.pn ++ pins))) S3 hg hm hv q hnn hdbg
        refine test (LM.here ?_)
        cases b with
        | true =>
          refine codeAny_handlers_suite_as ?_
          refine HandSPX.lands_againZ fl3 fun h4 fl4 up4 => ?_
          have J4 : Inv X pins σ' H' { s' with heap := h4 } := J.landed nb fl4.1 ((up.trans up3).trans up4) os ag
          obtain ⟨oe4, vs4, he4, hz4, hd4⟩ := fl4.there
          have S4 := J4.suite he4 hd4 na nL nF
          refine store_ok (X := X.suite a ((a, oe4) :: (X.pn ++ pins))) (v := .ref a) S4 hN hi hloc rfl (fun s5 S5 => ?_) (.inr hln)
          refine wpAny_mono ((hsu a oe4 cls d (X.pn ++ pins) hz4 ⟨_, hd4⟩).run [] s5 _ H' _ S5 (hyes rfl a na)) (fun f s6 hsp => ?_) (fun _ _ z => False.elim z)
          have end_ : ∀ {σ6 : St} {H6 : Hp} {Q : Shared → Prop}, Inv (X.suite a ((a, oe4) :: (X.pn ++ pins))) [] σ6 H6 s6 → (∀ s7, Inv X pins (σ6.set i none) H6 s7 → Q s7) →
              wpAny (model X.prog X.w) X.A (do bindName X.env n .none; unbindBehindTheSuite X.env n pos') (fun _ s7 => Q s7) X.xe s6 := fun {σ6 H6 Q} S6 hq => gone_ok (S6.unsuite ok) hN hi hln hq
          cases f with
          | next =>
            obtain ⟨σ6, H6, S6, q6⟩ := hsp
            exact end_ S6 fun s7 J7 => ⟨_, _, J7, q6⟩
          | brk =>
            obtain ⟨σ6, H6, S6, q6⟩ := hsp
            exact end_ S6 fun s7 J7 => ⟨_, _, J7, q6⟩
          | cont =>
            obtain ⟨σ6, H6, S6, q6⟩ := hsp
            exact end_ S6 fun s7 J7 => ⟨_, _, J7, q6⟩
          | ret u =>
            obtain ⟨v6, σ6, H6, S6, r6, q6⟩ := hsp
            exact end_ S6 fun s7 J7 => ⟨_, _, _, J7, r6, q6⟩
        | false =>
          show wpAny _ X.A (handleBy (.ref a) X.env hds2) _ _ _
          exact ih (hno rfl)
    exact go hh w
  · cases f with
    | next =>
      obtain ⟨σ', H', J', q⟩ := hsp
      exact wpAny_execs_nil ⟨σ', H', J'.ofTry ok, q⟩
    | brk =>
      obtain ⟨σ', H', J', q⟩ := hsp
      exact ⟨σ', H', J'.ofTry ok, q⟩
    | cont =>
      obtain ⟨σ', H', J', q⟩ := hsp
      exact ⟨σ', H', J'.ofTry ok, q⟩
    | ret u =>
      obtain ⟨v, σ', H', J', r, q⟩ := hsp
      exact ⟨v, σ', H', J'.ofTry ok, r, q⟩
theorem k_try {K : PySem.W.Frag} (hK : X.K = K) (hs : X.stack = X.env :: X.outer) (hf : X.env.frame = some X.env.locals) (hN : X.N.Nodup) (tk : Takes X Wout)
    (hb : ∀ (W : WX) (pn : List (Addr × Obj)) (xe : Value → Shared → Prop), Takes (X.tr pn xe) W → PassesOwn (model X.prog X.w) X.A X.env xe → PSs (X.tr pn xe) body (tb W))
    (hh : HdsA X (h₀ :: hds) l) : PS X (.Try body (h₀ :: hds) [] [] pos) (tTry K Wout l tb) := hK ▸ ps_try_manyA hs hf hN tk hb hh
end
/-! ### calls with keywords only -/
structure KB (K : PySem.W.Frag) (fd : FuncData) (ps ks : List Str) (g : List Value → List Value) (gV : List V → List V) : Prop where
  to : ∀ (s : Shared) (ws : List Value), K.In s.heap → (g ws).length = ps.length → BindsTo s fd ⟨[], ks.zip ws⟩ (ps.zip (g ws))
  rel : ∀ {zs : List V} {ws : List Value}, Vals zs ws → Vals (gV zs) (g ws)
def tCallKS (sp : Sp) (gV : List V → List V) (E : St → XK) (tk : TA) : TE := fun σ H Q => tk σ H fun zs H1 => sp (gV zs) H1 Q (E σ)
section
variable {X : Cx} {CX : CXT} {k : Nat} {f : Addr} {fd : FuncData} {ps ks : List Str} {sp : Sp} {E : St → XK} {x : Str} {p pos : Pos} {kws : List Keyword} {tk : TA} {g : List Value → List Value} {gV : List V → List V}
theorem pe_callKS (F : FnOk X.prog X.w X.K X.mg X.base CX k f fd ps sp) (hr : Room k X.A) (hg : Gl X x) (hm : X.mg x = some (.ref f)) (hk : PySem.W.keepIn X.K (.ref f) = true) (hb : KB X.K fd ps ks g gV) (hx : ∀ σ, PassesAt CX X σ (E σ))
    (hkw : PK X kws tk) (hall : (backToKw pos (keywordEach kws X.env)).all (·.1.isSome) = true := by rfl) (hks : (backToKw pos (keywordEach kws X.env)).filterMap (·.1) = ks := by rfl)
    (hdb : (x == ("__debug__" : Str)) = false := by decide) (hpl : ((backTo pos (starEach [] X.env)).any (·.1) || (backToKw pos (keywordEach kws X.env)).any (·.1.isNone)) = false := by rfl) :
    PE X (.Call (.Name x p) [] kws pos) (tCallKS sp gV E tk) := by
  refine ⟨fun pins s σ H Q I h => ?_⟩
  refine wpAny_Call_Name_kw (ld_glob I hg hm ?_ hdb)
  refine PySem.W.callWith_KW0 (h₀ := X.base) I.ok.mod.kin hk hall (thn (hkw.run pos pins s σ H _ I h) fun ws s2 ⟨zs, H2, I2, rz, q2⟩ => ⟨I2.kIn, ?_⟩) hpl
  rw [hks]
  show wpAny _ _ (call (.ref f) [] (ks.zip ws)) _ _ _
  have r2 := hb.rel rz
  have hl : (g ws).length = ps.length := by rw [← r2.length]; exact F.len _ _ _ _ q2
  refine wpAny_call (codeAny_mono (F.run X.A X.stack s2 H2 ⟨[], ks.zip ws⟩ (g ws) (gV zs) Q (E σ) hr I2.env0 (hb.to s2 ws I2.kIn hl) r2 q2) fun r s' hq => ?_)
  cases r with
  | error e => exact hx σ pins H2 s2 e s' I2 hq
  | ok fl =>
    cases fl with
    | ret u => exact I2.after hq
    | next => exact False.elim hq
    | brk => exact False.elim hq
    | cont => exact False.elim hq
end
section
variable {K : PySem.W.Frag} {x qual : Str} {st : Stmt} {f : Addr} {fd : FuncData} {ps ks : List Str}
/-- every parameter by its keyword, in order -/
theorem Fun.kb (F : Fun K x qual st f fd)
    (h : ∀ (kV doc pm : Value) (an : Option Addr) (cdv ct : Value) (us : List Value), us.length = ps.length → bindArgs (PySem.W.fnOf x qual (defArgs st) (defBody st) (defScope st) .none kV doc pm an cdv ct) ⟨[], ks.zip us⟩ = pure (ps.zip us)) : KB K fd ps ks id id := by
  obtain ⟨oc, od, kV, doc, pm, an, cdv, ct, osl, rfl, lk, hcd⟩ := F.ex
  exact ⟨fun s ws _ hl => .of_eq (h kV doc pm an cdv ct ws hl), fun r => r⟩
theorem vals_rev : ∀ {vs : List V} {us : List Value}, Vals vs us → Vals vs.reverse us.reverse
  | _, _, .nil => .nil
  | _, _, .cons r rs => by
    rw [List.reverse_cons, List.reverse_cons]
    exact (vals_rev rs).append (.cons r .nil)
/-- .. in the order turned -/
theorem Fun.kbR (F : Fun K x qual st f fd)
    (h : ∀ (kV doc pm : Value) (an : Option Addr) (cdv ct : Value) (us : List Value), us.length = ps.length → bindArgs (PySem.W.fnOf x qual (defArgs st) (defBody st) (defScope st) .none kV doc pm an cdv ct) ⟨[], ks.zip us⟩ = pure (ps.zip us.reverse)) : KB K fd ps ks List.reverse List.reverse := by
  obtain ⟨oc, od, kV, doc, pm, an, cdv, ct, osl, rfl, lk, hcd⟩ := F.ex
  exact ⟨fun s ws _ hl => .of_eq (h kV doc pm an cdv ct ws (by rw [List.length_reverse] at hl; exact hl)), fun r => vals_rev r⟩
end
end L2
namespace Ew
open PySem PySem.Spec PyProof.Rows L2
/-! ### errors by types -/
/-- an error at the dict dd holds a value of the type T -/
def Held (W : Wd) (T : Typ) (dd : Addr) (H : Hp) : Prop := ∃ v, H dd = some (.xd [(("given" : Str), v)]) ∧ T.at W v H
/-- as spT; where bad x tells a class and a type, an error of it instead -/
def spE {α : Type} (C : α → Prop) (A : α → List Typ) (R : α → Typ) (bad : α → Option (Addr × Typ)) : Sp := fun vs H Q E => ∃ (M B : Addr → Prop) (x : α), (∀ a, B a → M a) ∧ (∀ a, B a → BoxAt H a) ∧ (∀ a, M a → H a ≠ none) ∧ C x ∧ TysV M B (A x) vs H ∧
  (bad x = none → ∀ v H', Ex B H H' → (R x).p M B v H' → Q v H') ∧ (∀ c T, bad x = some (c, T) → ∀ dd v H', Ex B H H' → T.p M B v H' → H' dd = some (.xd [(("given" : Str), v)]) → E (.ref c) (some dd) H')
/-- an own error's class -/
def erT (dd a : Addr) (T : Typ) : Typ := ⟨fun M B v H => v = .ref a ∧ ∃ u, H dd = some (.xd [(("given" : Str), u)]) ∧ T.p M B u H, fun e ⟨h, u, h1, h2⟩ => ⟨h, u, e.keepT h1 (fun _ z => nomatch z), T.up e h2⟩, fun n ⟨h, u, h1, h2⟩ => ⟨h, u, h1, T.weak n h2⟩, fun ⟨h, u, h1, h2⟩ => ⟨h, u, h1, T.drop h2⟩⟩
section
variable {W : Wd} {Γ : Gam} {tl : TA} {te : TE} {T U : Typ} {α : Type} {C : α → Prop} {A : α → List Typ} {R : α → Typ} {bad : α → Option (Addr × Typ)} {Wx : WX} {N : Sx → Hp → Prop} {Rr : V → Hp → Prop} {Bk Ct : Sx → Hp → Prop} {c : Addr} {φ : Prop}
/-- what is wished of an error of the class c that holds a value of the type T -/
def ErK (W : Wd) (Γ : Gam) (Wx : WX) (c : Addr) (T : Typ) : Prop := ∀ dd σ H, nE W Γ σ H → Held W T dd H → Wx (.ref c) (some dd) σ H
theorem ty_callE (x : α) (hC : C x) (h : TyA W Γ tl (A x)) (hb : ∀ c T, bad x = some (c, T) → ErK W Γ Wx c T) : Ty W Γ (tCallS (spE C A R bad) (WE Wx) tl) (gd (bad x = none) (R x)) := fun σ H c g Q q =>
  h σ H c g _ fun vs H1 e1 hv => ⟨W.M, W.B, x, W.sub, (c.up e1).box, (c.up e1).al, hC, hv, fun k v H2 e2 h2 => q v H2 (e1.trans e2) ⟨k, h2⟩,
    fun cc T k dd v H' e2 h2 h3 => hb cc T k dd σ H' ⟨c.up (e1.trans e2), g.up (e1.trans e2).toW⟩ ⟨v, h3, h2⟩⟩
/-- .. where nothing is let out -/
theorem ty_callE0 {E : XK} (x : α) (hC : C x) (h : TyA W Γ tl (A x)) (hb : bad x = none) : Ty W Γ (tCall (spE C A R bad) [] E tl) (R x) := fun σ H c g Q q =>
  h σ H c g _ fun vs H1 e1 hv => ⟨W.M, W.B, x, W.sub, (c.up e1).box, (c.up e1).al, hC, by rw [List.append_nil]; exact hv, fun k v H2 e2 h2 => q v H2 (e1.trans e2) h2,
    fun cc T k => by rw [hb] at k; cases k⟩
theorem ty_callKE {gV : List V → List V} {Us : List Typ} (x : α) (hC : C x) (h : TyA W Γ tl Us) (hg : ∀ {vs H}, TysV W.M W.B Us vs H → TysV W.M W.B (A x) (gV vs) H) (hb : ∀ c T, bad x = some (c, T) → ErK W Γ Wx c T) :
    Ty W Γ (tCallKS (spE C A R bad) gV (WE Wx) tl) (gd (bad x = none) (R x)) := fun σ H c g Q q =>
  h σ H c g _ fun vs H1 e1 hv => ⟨W.M, W.B, x, W.sub, (c.up e1).box, (c.up e1).al, hC, hg hv, fun k v H2 e2 h2 => q v H2 (e1.trans e2) ⟨k, h2⟩,
    fun cc T k dd v H' e2 h2 h3 => hb cc T k dd σ H' ⟨c.up (e1.trans e2), g.up (e1.trans e2).toW⟩ ⟨v, h3, h2⟩⟩
theorem ty_callKE0 {gV : List V → List V} {Us : List Typ} (x : α) (hC : C x) (h : TyA W Γ tl Us) (hg : ∀ {vs H}, TysV W.M W.B Us vs H → TysV W.M W.B (A x) (gV vs) H) (hb : bad x = none) :
    Ty W Γ (tCallKS (spE C A R bad) gV (fun _ => E0) tl) (R x) := fun σ H c g Q q =>
  h σ H c g _ fun vs H1 e1 hv => ⟨W.M, W.B, x, W.sub, (c.up e1).box, (c.up e1).al, hC, hg hv, fun k v H2 e2 h2 => q v H2 (e1.trans e2) h2,
    fun cc T k => by rw [hb] at k; cases k⟩
theorem ty_callK0 {gV : List V → List V} {Us : List Typ} (x : α) (hC : C x) (h : TyA W Γ tl Us) (hg : ∀ {vs H}, TysV W.M W.B Us vs H → TysV W.M W.B (A x) (gV vs) H) :
    Ty W Γ (tCallKS (spT C A R) gV (fun _ => E0) tl) (R x) := fun σ H c g Q q =>
  h σ H c g _ fun vs H1 e1 hv => ⟨W.M, W.B, x, W.sub, (c.up e1).box, (c.up e1).al, hC, hg hv, fun v H2 e2 h2 => q v H2 (e1.trans e2) h2⟩
theorem tysv_id {vs : List V} {H : Hp} {Ts : List Typ} (h : TysV W.M W.B Ts vs H) : TysV W.M W.B Ts (id vs) H := h
theorem tysv_rev2 {vs : List V} {H : Hp} (h : TysV W.M W.B [T, U] vs H) : TysV W.M W.B [U, T] vs.reverse H := by
  match vs, h with
  | [a, b], h => exact ⟨h.2.1, h.1, True.intro⟩
theorem Ty.gd (h : Ty W Γ te (gd φ T)) : Ty W Γ te T := h.sub fun _ _ _ z => z.2
/-- a call as a statement: behind it φ holds -/
theorem tys_dropG (h : Ty W Γ te (Ew.gd φ T)) : TyS W Γ (tDrop te) (fun σ H => φ ∧ nE W Γ σ H) Rr Bk Ct := fun σ H c g D dn _ _ _ => h σ H c g _ fun v H1 e z => dn σ H1 e.toW ⟨z.1, c.up e, g.up e.toW⟩
theorem tys_seqG {ts tw : TS} (h1 : TyS W Γ ts (fun σ H => φ ∧ nE W Γ σ H) Rr Bk Ct) (h2 : φ → TyS W Γ tw N Rr Bk Ct) : TyS W Γ (tSeq ts tw) N Rr Bk Ct := tys_seq h1 fun σ H ⟨f, n⟩ => ⟨W, Γ, Wd.Like.refl W, n, h2 f⟩
theorem tys_raise (h : Ty W Γ te T) (k : ErK W Γ Wx c T) : TyS W Γ (tRaiseW c Wx (tCons te tNil)) noN Rr Bk Ct := fun σ H cx g D _ _ _ _ =>
  h σ H cx g _ fun v H1 e hv => ⟨v, rfl, fun d hd => k d σ _ ⟨cx.up (e.trans (Ex.new hd)), g.up (e.trans (Ex.new hd)).toW⟩ ⟨v, upd_same, T.up (Ex.new (B := W.B) hd).toW hv⟩⟩
/-- err.given in a suite -/
theorem ty_given {a dd : Addr} {cls : Value} {d : Option Addr} (hc : cls = .ref c) (hd : d = some dd) (h : Ty W Γ te (erT dd a T)) : Ty W Γ (tXf a cls d c "given" te) T := fun σ H cx g Q q =>
  h σ H cx g _ fun v H1 e ⟨e1, u, h1, h2⟩ => ⟨e1, hc, dd, _, u, hd, h1, by simp [List.lookup], q u H1 e h2⟩
/-- try: the errors that its body lets out -/
theorem tys_try {K : PySem.W.Frag} {Wout : WX} {l : List Hdl} {tb : WX → TS} {Er : Value → Option Addr → Sx → Hp → Prop} (hb : ∀ Wx : WX, (∀ c d σ H, Er c d σ H → Wx c d σ H) → TyS W Γ (tb Wx) N Rr Bk Ct)
    (hh : ∀ D : Ends, (∀ v H', Rr v H' → D.rt v H') → ∀ c d σ H, Er c d σ H → wManyA K Wout D l c d σ H) : TyS W Γ (tTry K Wout l tb) N Rr Bk Ct := fun σ H c g D dn dr db dc =>
  hb (wManyA K Wout D l) (hh D dr) σ H c g D dn dr db dc
/-- the first clause takes it -/
theorem hdl_hit {K : PySem.W.Frag} {Wout : WX} {l : List Hdl} {D : Ends} {i : Nat} {ts : Addr → Value → Option Addr → TS} {dd : Addr} {σ : Sx} {H : Hp} {cc : Value} (hc : PySem.W.exmOne K (.ref c) cc = some true) (n : nE W Γ σ H) (hd : Held W T dd H)
    (dr : ∀ v H', Rr v H' → D.rt v H') (hs : ∀ a, TyS W (Γ.set i (some (erT dd a T))) (ts a (.ref c) (some dd)) noN Rr noN noN) : wManyA K Wout D ((cc, i, ts) :: l) (.ref c) (some dd) σ H :=
  ⟨true, hc, fun _ a ha => by
    obtain ⟨u, h1, h2⟩ := hd
    exact hs a _ H n.1 (EnvL.set (T := erT dd a T) ⟨rfl, u, h1, h2⟩ n.2) _ (fun _ _ _ z => z.elim) dr (fun _ _ _ z => z.elim) (fun _ _ _ z => z.elim), fun z => Bool.noConfusion z⟩
theorem hdl_miss {K : PySem.W.Frag} {Wout : WX} {l : List Hdl} {D : Ends} {i : Nat} {ts : Addr → Value → Option Addr → TS} {d : Option Addr} {σ : Sx} {H : Hp} {cc cls : Value} (hc : PySem.W.exmOne K cls cc = some false) (h : wManyA K Wout D l cls d σ H) :
    wManyA K Wout D ((cc, i, ts) :: l) cls d σ H := ⟨false, hc, fun z => Bool.noConfusion z, fun _ => h⟩
end
section
variable {P : Program} {w : World} {K : PySem.W.Frag} {mg : Str → Option Value} {base : Heap}
/-- a def that may raise, by its typed body -/
theorem fn_tyE {x qual : Str} {st : Stmt} {f : Addr} {fd : FuncData} {N ps : List Str} {k : Nat} {α : Type} {C : α → Prop} {A : α → List Typ} {R : α → Typ} {bad : α → Option (Addr × Typ)} (F : Fun K x qual st f fd) (S : FnScope N ps (defScope st))
    (len : ∀ x, C x → (A x).length = ps.length)
    (hbody : ∀ (cdv : Value) (Ar : Around) (outer : List Env) (s : Shared) (H : Hp) (E : XK), Room k (Ar.deeper (envOfC qual (defScope st) s.heap.objs.size f cdv)) →
      ∃ t, PSs (cxOf (L2.CX P w) P w K mg base N qual (defScope st) f cdv Ar outer s H E) (defBody st) t ∧ ∀ (W : Wd) (x : α), C x → (∀ Γ c T, bad x = some (c, T) → ErK W Γ (fun cls d _ H => E cls d H) c T) →
        TyS W ((A x).map some ++ List.replicate (N.length - ps.length) none) t (fun _ H' => bad x = none ∧ rW W (R x) .non H') (fun v H => bad x = none ∧ rW W (R x) v H) noN noN) :
    FnOk P w K mg base (L2.CX P w) (k + 1) f fd ps (spE C A R bad) := by
  refine F.okX S (fun vs H Q E h => ?_) fun cdv Ar outer s H vs Q E hr h => ?_
  · obtain ⟨M, B, x, _, _, _, hC, h, _⟩ := h
    rw [h.length, len x hC]
  · obtain ⟨M, B, x, hs, hb, ha, hC, h, q, qe⟩ := h
    obtain ⟨t, ht, k⟩ := hbody cdv Ar outer s H E hr
    refine ⟨t, ht, k (Wd.base M B H hs) x hC (fun Γ c T hb dd σ H' n hl => ?_) (L2.start N vs) H ⟨hb, ha, Ex.refl B H, True.intro⟩ ?_ _ (fun σ' H' _ n => q n.1 _ _ n.2.1 n.2.2) (fun v H' n => q n.1 _ _ n.2.1 n.2.2) (fun _ _ _ z => z.elim) (fun _ _ _ z => z.elim)⟩
    · obtain ⟨v, h1, h2⟩ := hl
      exact qe c T hb dd v H' n.1.ex h2 h1
    · unfold L2.start
      have e : vs.length = ps.length := by rw [h.length, len x hC]
      rw [e]
      exact env_start h _
theorem tys_retE {W : Wd} {Γ : Gam} {te : TE} {T : Typ} {φ : Prop} {Bk Ct : Sx → Hp → Prop} (hφ : φ) (h : Ty W Γ te T) : TyS W Γ (tRet te) noN (fun v H => φ ∧ rW W T v H) Bk Ct := tys_ret h fun v H c k => ⟨hφ, c.ex, k⟩
theorem tys_retG {W : Wd} {Γ : Gam} {te : TE} {T : Typ} {φ : Prop} {Bk Ct : Sx → Hp → Prop} (h : Ty W Γ te (gd φ T)) : TyS W Γ (tRet te) noN (fun v H => φ ∧ rW W T v H) Bk Ct := tys_ret h fun v H c k => ⟨k.1, c.ex, k.2⟩
end
end Ew

end
section
set_option Elab.async false
set_option linter.all false
set_option maxRecDepth 100000
set_option maxHeartbeats 2000000
/-! EwZ: zip of a list with a tuple (turned from the worked proofs for two lists and for two tuples). -/
namespace RZ
open PySem
open PySem.Sem (wp)
section
variable {prog : Program} {w : World} {A : Around} {E : Value → Shared → Prop} {s : Shared}
theorem zipLT_next_item {z TI TO i1 i2 l1 l2 : Addr} {k1 k2 : Nat} {xs ys : Array Value} {x y a b : Value} {Q : Value → Shared → Prop} (D : ZipApart z TI TO i1 i2 l1 l2)
    (hz : IsZip s.heap z TI TO .none) (hTI : IsPair s.heap TI (.ref i1) (.ref i2)) (hTO : IsPair s.heap TO a b)
    (h1 : s.heap.IsListIter i1 l1 k1) (h2 : s.heap.IsTupleIter i2 l2 k2) (hl1 : s.heap.IsList l1 xs) (hl2 : s.heap.IsTuple l2 ys) (hx : xs[k1]? = some x) (hy : ys[k2]? = some y)
    (hQ : ∀ h', IsZip h' z TI TO (rawInt s.heap.objs.size) → IsPair h' TO x y → h'.IsListIter i1 l1 (k1 + 1) → h'.IsTupleIter i2 l2 (k2 + 1) → IsPair h' s.heap.objs.size x y → h'.objs.size = s.heap.objs.size + 1 →
      (∀ c o, c ≠ z → c ≠ TO → c ≠ i1 → c ≠ i2 → s.heap.get? c = some o → h'.get? c = some o) → Q (.ref s.heap.objs.size) { s with heap := h' }) :
    wpAny (model prog w) A (Builtin.«zip.__next__» ⟨[.ref z], []⟩) (fun fin s' => ∃ v, fin = .done (.ret v) ∧ Q v s') E s := by
  show wpAny _ _ (field (.ref z) 2 >>= _) _ _ _
  refine wpAny_bind (wpAny_field hz rfl (x := .bool false) rfl ?_)
  show wpAny _ _ (field (.ref z) 3 >>= _) _ _ _
  refine wpAny_bind (wpAny_field hz rfl (x := .ref TI) rfl ?_)
  refine wpAny_bind (wpAny_seqItems hTI rfl ?_)
  show wpAny _ _ (Builtin.SmallTypes.ownedTupleIsFree (.ref z) >>= _) _ _ _
  refine wpAny_bind ?_
  unfold Builtin.SmallTypes.ownedTupleIsFree
  refine wpAny_bind (wpAny_field hz rfl (x := .none) rfl (wpAny_pure ?_))
  simp only [if_true]
  refine wpAny_bind (wpAny_rule ?_)
  refine wpAny_bind (wpAny_field hz rfl (x := .ref TO) rfl ?_)
  refine wpAny_bind (wpAny_setField_rec hz (by simp) fun h₁ hz₁ hs₁ => ?_)
  replace hz₁ : IsZip h₁ z TI TO .ellipsis := hz₁
  refine wpAny_bind ?_
  simp only [List.zipIdx_cons, List.zipIdx_nil, List.forIn_cons, List.forIn_nil]

  refine wpAny_bind (wpAny_bind (wpAny_onRaise ?_))
  show wpAny _ _ (Builtin.SmallTypes.nextOf (.ref i1) >>= _) _ _ _
  refine wpAny_bind (wpAny_nextOf_list_item (h1.extBut hs₁.extBut D.i1z) (hl1.extBut hs₁.extBut D.l1z) hx fun h₂ h1₂ hs₂ => wpAny_pure ?_)
  have hTO₂ : IsPair h₂ TO a b := hs₂.extBut _ _ D.TOi1 (hs₁.extBut _ _ D.TOz hTO)
  refine wpAny_bind (wpAny_seqItems hTO₂ rfl ?_)
  refine wpAny_bind (wpAny_updateSeq_pair hTO₂ fun h₃ hTO₃ hs₃ => ?_)
  replace hTO₃ : IsPair h₃ TO x b := hTO₃
  refine wpAny_bind (wpAny_letGo (wpAny_pure ?_))

  refine wpAny_bind (wpAny_bind (wpAny_onRaise ?_))
  show wpAny _ _ (Builtin.SmallTypes.nextOf (.ref i2) >>= _) _ _ _
  refine wpAny_bind (nextOf_tuple_item (((h2.extBut hs₁.extBut D.i2z).extBut hs₂.extBut D.i12.symm).extBut hs₃.extBut D.TOi2.symm)
    (((hl2.extBut hs₁.extBut D.l2z).extBut hs₂.extBut D.l2i1).extBut hs₃.extBut D.l2TO) hy fun h₄ h2₄ hs₄ => wpAny_pure ?_)
  have hTO₄ : IsPair h₄ TO x b := hs₄.extBut _ _ D.TOi2 hTO₃
  refine wpAny_bind (wpAny_seqItems hTO₄ rfl ?_)
  refine wpAny_bind (wpAny_updateSeq_pair hTO₄ fun h₅ hTO₅ hs₅ => ?_)
  replace hTO₅ : IsPair h₅ TO x y := hTO₅
  refine wpAny_bind (wpAny_letGo (wpAny_pure (wpAny_pure ?_)))

  refine wpAny_bind (wpAny_seqItems hTO₅ rfl ?_)
  refine wpAny_bind (wpAny_newTuple ?_)
  have hsz : h₅.objs.size = s.heap.objs.size := by rw [hs₅.1, hs₄.1, hs₃.1, hs₂.1, hs₁.1]
  have hz₅ : IsZip h₅ z TI TO .ellipsis := hs₅.extBut _ _ D.TOz.symm (hs₄.extBut _ _ D.i2z.symm (hs₃.extBut _ _ D.TOz.symm (hs₂.extBut _ _ D.i1z.symm hz₁)))
  have hk₅ : ∀ c o, c ≠ z → c ≠ TO → c ≠ i1 → c ≠ i2 → s.heap.get? c = some o → h₅.get? c = some o := fun c o c1 c2 c3 c4 e =>
    hs₅.extBut _ _ c2 (hs₄.extBut _ _ c4 (hs₃.extBut _ _ c2 (hs₂.extBut _ _ c3 (hs₁.extBut _ _ c1 e))))
  have h1₅ : h₅.IsListIter i1 l1 (k1 + 1) := ((h1₂.extBut hs₃.extBut D.TOi1.symm).extBut hs₄.extBut D.i12).extBut hs₅.extBut D.TOi1.symm
  have h2₅ : h₅.IsTupleIter i2 l2 (k2 + 1) := h2₄.extBut hs₅.extBut D.TOi2.symm
  have hzlt : z < h₅.objs.size := Heap.lt_size hz₅
  have hTOlt : TO < h₅.objs.size := Heap.lt_size hTO₅
  have hi1lt : i1 < h₅.objs.size := by obtain ⟨_, e, _⟩ := h1₅; exact Heap.lt_size e
  have hi2lt : i2 < h₅.objs.size := by obtain ⟨_, e, _⟩ := h2₅; exact Heap.lt_size e
  show wpAny _ _ (Builtin.SmallTypes.ownedTupleHandOut (.ref z) (.ref h₅.objs.size) >>= _) _ _ _
  refine wpAny_bind ?_
  unfold Builtin.SmallTypes.ownedTupleHandOut
  have hz₆ : IsZip (h₅.push { cls := .type "tuple", data := .seq #[x, y] }) z TI TO .ellipsis := Heap.get?_push_of_some _ hz₅
  refine wpAny_bind (wpAny_setField_rec hz₆ (by simp) fun h₇ hz₇ hs₇ => ?_)
  replace hz₇ : IsZip h₇ z TI TO (rawInt h₅.objs.size) := hz₇
  refine wpAny_setField_rec hz₇ (by simp) fun h₈ hz₈ hs₈ => ?_
  replace hz₈ : IsZip h₈ z TI TO (rawInt h₅.objs.size) := hz₈
  have up : ∀ c o, c ≠ z → h₅.get? c = some o → h₈.get? c = some o := fun c o c1 e => hs₈.extBut _ _ c1 (hs₇.extBut _ _ c1 (Heap.get?_push_of_some _ e))
  have hT₈ : IsPair h₈ h₅.objs.size x y := hs₈.extBut _ _ (Nat.ne_of_gt hzlt) (hs₇.extBut _ _ (Nat.ne_of_gt hzlt) (Heap.get?_push_size _ rfl))
  have hz8 : h₈.objs.size = h₅.objs.size + 1 := by rw [hs₈.1, hs₇.1, Heap.size_push]
  rw [hsz] at hz₈ hT₈ hz8
  refine wpAny_pure ⟨_, rfl, ?_⟩
  show Q (.ref h₅.objs.size) _
  rw [hsz]
  exact hQ h₈ hz₈ (up _ _ D.TOz hTO₅) (h1₅.at fun o e => up _ o D.i1z e) (h2₅.at fun o e => up _ o D.i2z e) hT₈ hz8 fun c o c1 c2 c3 c4 e => up c o c1 (hk₅ c o c1 c2 c3 c4 e)

theorem zipLT_next_end {z TI TO i1 i2 l1 l2 : Addr} {k1 k2 : Nat} {xs ys : Array Value} {a b : Value} {Q : Fin → Shared → Prop} (hh : A.handled = none) (D : ZipApart z TI TO i1 i2 l1 l2)
    (hz : IsZip s.heap z TI TO .none) (hTI : IsPair s.heap TI (.ref i1) (.ref i2)) (hTO : IsPair s.heap TO a b)
    (h1 : s.heap.IsListIter i1 l1 k1) (h2 : s.heap.IsTupleIter i2 l2 k2) (hl1 : s.heap.IsList l1 xs) (hl2 : s.heap.IsTuple l2 ys) (hend : xs[k1]? = none ∨ ys[k2]? = none)
    (hE : ∀ h' e, (∀ c o, c ≠ z → c ≠ TO → c ≠ i1 → c ≠ i2 → s.heap.get? c = some o → h'.get? c = some o) → (∃ o, h'.get? e = some o ∧ o.cls = .type "StopIteration") → E (.ref e) { s with heap := h' }) :
    wpAny (model prog w) A (Builtin.«zip.__next__» ⟨[.ref z], []⟩) Q E s := by
  show wpAny _ _ (field (.ref z) 2 >>= _) _ _ _
  refine wpAny_bind (wpAny_field hz rfl (x := .bool false) rfl ?_)
  show wpAny _ _ (field (.ref z) 3 >>= _) _ _ _
  refine wpAny_bind (wpAny_field hz rfl (x := .ref TI) rfl ?_)
  refine wpAny_bind (wpAny_seqItems hTI rfl ?_)
  show wpAny _ _ (Builtin.SmallTypes.ownedTupleIsFree (.ref z) >>= _) _ _ _
  refine wpAny_bind ?_
  unfold Builtin.SmallTypes.ownedTupleIsFree
  refine wpAny_bind (wpAny_field hz rfl (x := .none) rfl (wpAny_pure ?_))
  simp only [if_true]
  refine wpAny_bind (wpAny_rule ?_)
  refine wpAny_bind (wpAny_field hz rfl (x := .ref TO) rfl ?_)
  refine wpAny_bind (wpAny_setField_rec hz (by simp) fun h₁ hz₁ hs₁ => ?_)
  replace hz₁ : IsZip h₁ z TI TO .ellipsis := hz₁
  refine wpAny_bind ?_
  simp only [List.zipIdx_cons, List.zipIdx_nil, List.forIn_cons, List.forIn_nil]
  refine wpAny_bind (wpAny_bind (wpAny_onRaise ?_))
  show wpAny _ _ (Builtin.SmallTypes.nextOf (.ref i1) >>= _) _ _ _
  cases hx : xs[k1]? with
  | none =>
    refine wpAny_bind (wpAny_nextOf_list_end hh (h1.extBut hs₁.extBut D.i1z) (hl1.extBut hs₁.extBut D.l1z) hx fun h₂ e hs₂ he => ?_)
    obtain ⟨oe, hoe, hce⟩ := he
    have hz₂ : IsZip h₂ z TI TO .ellipsis := hs₂ _ _ D.i1z.symm hz₁
    have hez : e ≠ z := fun x => by subst x; rw [hz₂] at hoe; cases hoe; simp at hce
    refine wpAny_setField_rec hz₂ (by simp) fun h₃ _ hs₃ => hE h₃ e (fun c o c1 _ c3 _ x => hs₃.extBut _ _ c1 (hs₂ _ _ c3 (hs₁.extBut _ _ c1 x))) ⟨oe, hs₃.extBut _ _ hez hoe, hce⟩
  | some x =>
    have hy : ys[k2]? = none := by rcases hend with h | h; rw [hx] at h; cases h; exact h
    refine wpAny_bind (wpAny_nextOf_list_item (h1.extBut hs₁.extBut D.i1z) (hl1.extBut hs₁.extBut D.l1z) hx fun h₂ h1₂ hs₂ => wpAny_pure ?_)
    have hTO₂ : IsPair h₂ TO a b := hs₂.extBut _ _ D.TOi1 (hs₁.extBut _ _ D.TOz hTO)
    refine wpAny_bind (wpAny_seqItems hTO₂ rfl ?_)
    refine wpAny_bind (wpAny_updateSeq_pair hTO₂ fun h₃ hTO₃ hs₃ => ?_)
    refine wpAny_bind (wpAny_letGo (wpAny_pure ?_))
    refine wpAny_bind (wpAny_bind (wpAny_onRaise ?_))
    show wpAny _ _ (Builtin.SmallTypes.nextOf (.ref i2) >>= _) _ _ _
    refine wpAny_bind (nextOf_tuple_end hh (((h2.extBut hs₁.extBut D.i2z).extBut hs₂.extBut D.i12.symm).extBut hs₃.extBut D.TOi2.symm)
      (((hl2.extBut hs₁.extBut D.l2z).extBut hs₂.extBut D.l2i1).extBut hs₃.extBut D.l2TO) hy fun h₄ e hs₄ he => ?_)
    obtain ⟨oe, hoe, hce⟩ := he
    have hz₄ : IsZip h₄ z TI TO .ellipsis := hs₄ _ _ D.i2z.symm (hs₃.extBut _ _ D.TOz.symm (hs₂.extBut _ _ D.i1z.symm hz₁))
    have hez : e ≠ z := fun x => by subst x; rw [hz₄] at hoe; cases hoe; simp at hce
    refine wpAny_setField_rec hz₄ (by simp) fun h₅ _ hs₅ => hE h₅ e (fun c o c1 c2 c3 c4 x => hs₅.extBut _ _ c1 (hs₄ _ _ c4 (hs₃.extBut _ _ c2 (hs₂.extBut _ _ c3 (hs₁.extBut _ _ c1 x))))) ⟨oe, hs₅.extBut _ _ hez hoe, hce⟩

theorem pyNext_zipLT_item {z TI TO i1 i2 l1 l2 : Addr} {k1 k2 : Nat} {xs ys : Array Value} {x y a b : Value} {Q : Option Value → Shared → Prop} (D : ZipApart z TI TO i1 i2 l1 l2)
    (hz : IsZip s.heap z TI TO .none) (hTI : IsPair s.heap TI (.ref i1) (.ref i2)) (hTO : IsPair s.heap TO a b)
    (h1 : s.heap.IsListIter i1 l1 k1) (h2 : s.heap.IsTupleIter i2 l2 k2) (hl1 : s.heap.IsList l1 xs) (hl2 : s.heap.IsTuple l2 ys) (hx : xs[k1]? = some x) (hy : ys[k2]? = some y)
    (hQ : ∀ h', IsZip h' z TI TO (rawInt s.heap.objs.size) → IsPair h' TO x y → h'.IsListIter i1 l1 (k1 + 1) → h'.IsTupleIter i2 l2 (k2 + 1) → IsPair h' s.heap.objs.size x y → h'.objs.size = s.heap.objs.size + 1 →
      (∀ c o, c ≠ z → c ≠ TO → c ≠ i1 → c ≠ i2 → s.heap.get? c = some o → h'.get? c = some o) → Q (some (.ref s.heap.objs.size)) { s with heap := h' }) :
    wpAny (model prog w) A (pyNext (.ref z)) Q E s := by
  have hT : s.TypeIs (.ref z) "zip" := ⟨_, hz, rfl⟩
  unfold pyNext
  exact wpAny_bind (wpAny_attempt (wpAny_callSpecial?_slot (name := Str.ofString "__next__") hT F.slot_zip_next
    (wpAny_call_entry F.slot_zip_next hT F.entry_zip_next
      (zipLT_next_item D hz hTI hTO h1 h2 hl1 hl2 hx hy fun h' a1 a2 a3 a4 a5 a6 a7 => wpAny_pure (hQ h' a1 a2 a3 a4 a5 a6 a7)) (F.args_zip_next_1 _))))

theorem pyNext_zipLT_end {z TI TO i1 i2 l1 l2 : Addr} {k1 k2 : Nat} {xs ys : Array Value} {a b : Value} {Q : Option Value → Shared → Prop} (hh : A.handled = none) (D : ZipApart z TI TO i1 i2 l1 l2)
    (hz : IsZip s.heap z TI TO .none) (hTI : IsPair s.heap TI (.ref i1) (.ref i2)) (hTO : IsPair s.heap TO a b)
    (h1 : s.heap.IsListIter i1 l1 k1) (h2 : s.heap.IsTupleIter i2 l2 k2) (hl1 : s.heap.IsList l1 xs) (hl2 : s.heap.IsTuple l2 ys) (hend : xs[k1]? = none ∨ ys[k2]? = none)
    (hQ : ∀ h', (∀ c o, c ≠ z → c ≠ TO → c ≠ i1 → c ≠ i2 → s.heap.get? c = some o → h'.get? c = some o) → Q none { s with heap := h' }) : wpAny (model prog w) A (pyNext (.ref z)) Q E s := by
  have hT : s.TypeIs (.ref z) "zip" := ⟨_, hz, rfl⟩
  unfold pyNext
  refine wpAny_bind (wpAny_attempt (wpAny_callSpecial?_slot (name := Str.ofString "__next__") hT F.slot_zip_next
    (wpAny_call_entry F.slot_zip_next hT F.entry_zip_next (zipLT_next_end hh D hz hTI hTO h1 h2 hl1 hl2 hend fun h' e hk he => ?_) (F.args_zip_next_1 _))))
  obtain ⟨o, ho, hc⟩ := he
  refine wpAny_bind (wpAny_isInstance (T := "StopIteration") (b := true) ⟨o, ho, hc⟩ isSubtype_stop ?_)
  exact wpAny_pure (hQ _ hk)
end

abbrev zipLTH1 (h : Heap) (l1 : Addr) : Heap := h.push { cls := .type "list_iterator", data := .fields #[.ref l1, .int 0 0] }
abbrev zipLTH2 (h : Heap) (l1 l2 : Addr) : Heap := (zipLTH1 h l1).push { cls := .type "tuple_iterator", data := .fields #[.ref l2, .int 0 0] }
abbrev zipLTH3 (h : Heap) (l1 l2 : Addr) : Heap := (zipLTH2 h l1 l2).push { cls := .type "tuple", data := .seq #[.ref h.objs.size, .ref (zipLTH1 h l1).objs.size] }
abbrev zipLTH4 (h : Heap) (l1 l2 : Addr) : Heap := (zipLTH3 h l1 l2).push { cls := .type "tuple", data := .seq #[.none, .none] }
abbrev zipLTH5 (h : Heap) (l1 l2 : Addr) : Heap := (zipLTH4 h l1 l2).push { cls := .type "zip", data := .fields #[.none, .bool false, .bool false, .ref (zipLTH2 h l1 l2).objs.size, .ref (zipLTH3 h l1 l2).objs.size] }

theorem meets_zipLT_new (l1 l2 : Addr) (xs ys : Array Value) :
    Meets (Builtin.«zip.__new__» ⟨[.type "zip", .ref l1, .ref l2], []⟩) (fun _ R s => s.heap.IsList l1 xs ∧ s.heap.IsTuple l2 ys ∧
      R (.ok (.ret (.ref (zipLTH4 s.heap l1 l2).objs.size))) { s with heap := zipLTH5 s.heap l1 l2 }) :=
  .of_wp fun prog w A R s h => by
    obtain ⟨hp, g, d, tk, os⟩ := s; obtain ⟨hl1, hl2, h⟩ := h
    have hsub := sub_zip
    have hL1 : Heap.IsList (Shared.heap ⟨hp, g, d, tk, os⟩) l1 xs := hl1
    have hL2 : Heap.IsTuple (Shared.heap ⟨hp.push { cls := .type "list_iterator", data := .fields #[.ref l1, .int 0 0] }, g, d, tk, os⟩) l2 ys := Heap.IsTuple.push hl2 _
    wp_walk using wpAny_pyIter_list hL1, wpAny_pyIter_tuple hL2
    exact ⟨_, rfl, h⟩

section
variable {prog : Program} {w : World} {A : Around} {E : Value → Shared → Prop} {s : Shared}

theorem call_zipLT {l1 l2 : Addr} {xs ys : Array Value} {Q : Value → Shared → Prop} (hl1 : s.heap.IsList l1 xs) (hl2 : s.heap.IsTuple l2 ys)
    (h : ∀ h', IsZip h' (s.heap.objs.size + 4) (s.heap.objs.size + 2) (s.heap.objs.size + 3) .none → IsPair h' (s.heap.objs.size + 2) (.ref s.heap.objs.size) (.ref (s.heap.objs.size + 1)) →
      IsPair h' (s.heap.objs.size + 3) .none .none → h'.IsListIter s.heap.objs.size l1 0 → h'.IsTupleIter (s.heap.objs.size + 1) l2 0 → h'.objs.size = s.heap.objs.size + 5 →
      (∀ c o, s.heap.get? c = some o → h'.get? c = some o) → Q (.ref (s.heap.objs.size + 4)) { s with heap := h' }) :
    wpAny (model prog w) A (call (.type "zip") [.ref l1, .ref l2]) Q E s := by
  refine callType_new F.called_zip (by decide) (F.typeCall_zip_2 _ _) (F.newCall_zip_2 _ _) (fun obj => F.args_object_init_3 obj _ _) F.entry_zip_new
    (meets_zipLT_new l1 l2 xs ys) ⟨hl1, hl2, ?_⟩
  have z1 : (zipLTH1 s.heap l1).objs.size = s.heap.objs.size + 1 := Heap.size_push ..
  have z2 : (zipLTH2 s.heap l1 l2).objs.size = s.heap.objs.size + 2 := by rw [Heap.size_push, z1]
  have z3 : (zipLTH3 s.heap l1 l2).objs.size = s.heap.objs.size + 3 := by rw [Heap.size_push, z2]
  have z4 : (zipLTH4 s.heap l1 l2).objs.size = s.heap.objs.size + 4 := by rw [Heap.size_push, z3]
  have z5 : (zipLTH5 s.heap l1 l2).objs.size = s.heap.objs.size + 5 := by rw [Heap.size_push, z4]
  have g5 : (zipLTH5 s.heap l1 l2).get? (zipLTH4 s.heap l1 l2).objs.size = some _ := Heap.get?_push_size _ rfl
  have g4 : (zipLTH5 s.heap l1 l2).get? (zipLTH3 s.heap l1 l2).objs.size = some _ := Heap.get?_push_of_some _ (Heap.get?_push_size _ rfl)
  have g3 : (zipLTH5 s.heap l1 l2).get? (zipLTH2 s.heap l1 l2).objs.size = some _ := Heap.get?_push_of_some _ (Heap.get?_push_of_some _ (Heap.get?_push_size _ rfl))
  have g2 : (zipLTH5 s.heap l1 l2).get? (zipLTH1 s.heap l1).objs.size = some _ := Heap.get?_push_of_some _ (Heap.get?_push_of_some _ (Heap.get?_push_of_some _ (Heap.get?_push_size _ rfl)))
  have g1 : (zipLTH5 s.heap l1 l2).get? s.heap.objs.size = some _ := Heap.get?_push_of_some _ (Heap.get?_push_of_some _ (Heap.get?_push_of_some _ (Heap.get?_push_of_some _ (Heap.get?_push_size _ rfl))))
  show _ ∧ _
  rw [z2, z3, z4] at g5
  rw [z1, z2] at g3
  rw [z3] at g4
  rw [z1] at g2
  rw [z4]
  exact ⟨⟨_, g5, rfl⟩, h _ g5 g3 g4 ⟨_, g1, rfl, rfl⟩ ⟨_, g2, rfl, rfl⟩ z5 fun c o x =>
    Heap.get?_push_of_some _ (Heap.get?_push_of_some _ (Heap.get?_push_of_some _ (Heap.get?_push_of_some _ (Heap.get?_push_of_some _ x))))⟩
end
end RZ
namespace RZ
open PySem PySem.Spec PyProof.Rows L2
/-- the list at a, the tuple at b as they stand at each turn, the items in new pairs -/
def ItzLT (K : PySem.W.Frag) (a b : Addr) : It :=
  ⟨fun i H => ∃ (xs ys : List V) (x y : V), SqL K H a xs ∧ SqT K H b ys ∧ xs[i]? = some x ∧ ys[i]? = some y,
    fun i H v H' => ∃ T x y, v = .ref T ∧ H T = none ∧ H' = upd H T (.tup [x, y]) ∧ (∀ xs, SqL K H a xs → xs[i]? = some x) ∧ ∀ ys, SqT K H b ys → ys[i]? = some y,
    fun i H => ∃ xs ys : List V, SqL K H a xs ∧ SqT K H b ys ∧ (xs.length ≤ i ∨ ys.length ≤ i)⟩
theorem turn_zipLT {P : Program} {w : World} {K : PySem.W.Frag} {elts : List Expr} {kk : Nat} {tpos : Pos} {a b z TI TO i1 i2 : Addr} (D : ZipApart z TI TO i1 i2 a b) :
    Turn P w K (.Tuple elts kk tpos) (ItzLT K a b) [z, TI, TO, i1, i2] z (fun i h => IsZip h z TI TO .none ∧ IsPair h TI (.ref i1) (.ref i2) ∧ (∃ x y, IsPair h TO x y) ∧ h.IsListIter i1 a i ∧ h.IsTupleIter i2 b i) where
  mem := by simp
  obj := fun i h st c hc => by
    obtain ⟨hz, hTI, ⟨x, y, hTO⟩, ⟨o1, e1, _, d1⟩, ⟨o2, e2, _, d2⟩⟩ := st
    have e' : c = z ∨ c = TI ∨ c = TO ∨ c = i1 ∨ c = i2 := by simpa using hc
    rcases e' with q | q | q | q | q
    · rw [q]; exact ⟨_, hz, fun v q => nomatch q⟩
    · rw [q]; exact ⟨_, hTI, fun v q => nomatch q⟩
    · rw [q]; exact ⟨_, hTO, fun v q => nomatch q⟩
    · rw [q]; exact ⟨o1, e1, fun v q => by rw [d1] at q; cases q⟩
    · rw [q]; exact ⟨o2, e2, fun v q => by rw [d2] at q; cases q⟩
  keep := fun i h h' st k => by
    obtain ⟨hz, hTI, ⟨x, y, hTO⟩, h1, h2⟩ := st
    exact ⟨k z (by simp) _ hz, k TI (by simp) _ hTI, ⟨x, y, k TO (by simp) _ hTO⟩, h1.at fun o q => k i1 (by simp) o q, h2.at fun o q => k i2 (by simp) o q⟩
  item := by
    intro X hP hw hK hc i pins s σ H E I hf st hg
    subst hP hw hK
    obtain ⟨hz, hTI, ⟨x0, y0, hTO⟩, h1, h2⟩ := st
    obtain ⟨xs, ys, x, y, hqx, hqy, hx, hy⟩ := hg
    obtain ⟨its, rv, p, _⟩ := I.list hqx
    obtain ⟨its2, rv2, p2, _⟩ := I.tuple hqy
    obtain ⟨u, hu, ru⟩ := rv.get hx
    obtain ⟨u2, hu2, ru2⟩ := rv2.get hy
    have hzl : z < s.heap.objs.size := Heap.lt_size hz
    refine pyNext_zipLT_item D hz hTI hTO h1 h2 p.isList p2 (x := u) (y := u2) (by simpa using hu) (by simpa using hu2) fun h' z' TO' h1' h2' hT hsz hk => ?_
    refine ⟨_, rfl, wpAny_letOwnedTupleGo_zip (s := { s with heap := h' }) z' fun h'' z'' sb => ?_⟩
    have hT2 : h''.get? s.heap.objs.size = some { cls := .type "tuple", data := .seq #[u, u2] } := (sb.2 _ (Nat.ne_of_gt hzl)).trans hT
    have new : ObjOk X.prog X.w (upd H s.heap.objs.size (.tup [x, y])) h'' s.heap.objs.size (.tup [x, y]) :=
      ⟨by show 2 ≤ sizeLine; decide, [u, u2], .cons ru (.cons ru2 .nil), ⟨_, hT2, rfl, _, rfl⟩⟩
    have I1 : Inv X pins σ (upd H s.heap.objs.size (.tup [x, y])) { s with heap := h'' } :=
      I.turnedNew (t' := s.toks) (ch := [z, TI, TO, i1, i2]) (fun c o hb q => (sb.2 c (fun q' => hb (by simp [q']))).trans (hk c o (fun q' => hb (by simp [q'])) (fun q' => hb (by simp [q'])) (fun q' => hb (by simp [q'])) (fun q' => hb (by simp [q'])) q)) hf (Nat.le_refl _) new
    refine ⟨.ref s.heap.objs.size, _, I1, rfl, ⟨_, x, y, rfl, I.hok.fresh (Nat.le_refl _), rfl, fun l hl => by rw [I.list_inj hl hqx]; exact hx, fun l hl => by rw [I.tuple_inj hl hqy]; exact hy⟩, ⟨z'', ?_, ⟨u, u2, ?_⟩, ?_, ?_⟩, fun c hcm => ?_⟩
    · exact (sb.2 _ D.TIz).trans (hk _ _ D.TIz D.TITO D.TIi1 D.TIi2 hTI)
    · exact (sb.2 _ D.TOz).trans TO'
    · exact h1'.at fun o q => (sb.2 _ D.i1z).trans q
    · exact h2'.at fun o q => (sb.2 _ D.i2z).trans q
    · have hlt : c < s.heap.objs.size := by
        have e' : c = z ∨ c = TI ∨ c = TO ∨ c = i1 ∨ c = i2 := by simpa using hcm
        rcases e' with q | q | q | q | q
        · rw [q]; exact hzl
        · rw [q]; exact Heap.lt_size hTI
        · rw [q]; exact Heap.lt_size hTO
        · rw [q]; obtain ⟨_, e1, _⟩ := h1; exact Heap.lt_size e1
        · rw [q]; obtain ⟨_, e2, _⟩ := h2; exact Heap.lt_size e2
      rw [upd_ne (Nat.ne_of_lt hlt)]
      exact (hf c hcm).1
  done := by
    intro X hP hw hK hc i pins s σ H E I hf st hg
    subst hP hw hK
    obtain ⟨hz, hTI, ⟨x0, y0, hTO⟩, h1, h2⟩ := st
    obtain ⟨xs, ys, hqx, hqy, hend⟩ := hg
    obtain ⟨its, rv, p, _⟩ := I.list hqx
    obtain ⟨its2, rv2, p2, _⟩ := I.tuple hqy
    have l1 := rv.length
    have l2 := rv2.length
    have he : its.toArray[i]? = none ∨ its2.toArray[i]? = none := by
      rcases hend with q | q
      · exact .inl (by simp; omega)
      · exact .inr (by simp; omega)
    exact pyNext_zipLT_end (I.ok.hd hc) D hz hTI hTO h1 h2 p.isList p2 he fun h' hk => ⟨rfl, I.turnedL (t' := s.toks) (ch := [z, TI, TO, i1, i2]) (fun c o hb q =>
      hk c o (fun q' => hb (by simp [q'])) (fun q' => hb (by simp [q'])) (fun q' => hb (by simp [q'])) (fun q' => hb (by simp [q'])) q) hf⟩
  self := fun A i s Q E st h => wpAny_pyIter_zip st.1 h

def iZipLT (K : PySem.W.Frag) (ta : TA) : TI := fun σ H R => ta σ H fun vs H1 => ∃ a b xs ys, vs = [.ref a, .ref b] ∧ SqL K H1 a xs ∧ SqT K H1 b ys ∧ R (ItzLT K a b) H1
theorem pi_zipLT {X : Cx} {e e2 : Expr} {ta : TA} {p pos tpos : Pos} {elts : List Expr} {kk : Nat} (hg : Gl X "zip") (hm : X.mg "zip" = none) (ha : PA X [e, e2] ta)
    (hs : starEach [e, e2] X.env = (false, eval e X.env) :: starEach [e2] X.env := by rfl) (hpl : (backTo pos (starEach [e2] X.env)).any (·.1) = false := by rfl) :
    PI X (.Tuple elts kk tpos) (.Call (.Name "zip" p) [e, e2] [] pos) (iZipLT X.K ta) := by
  refine ⟨fun pins s σ H R I h => ?_⟩
  refine Call_ (ld_blt I hg hm PyProof.Rows.boot_zip (PyProof.Rows.callWith_type1 (thn (ha.run pos pins s σ H _ I h) fun us s1 ⟨vs, H1, I1, r1, q1⟩ => ?_) hs hpl))
  obtain ⟨a, b, xs, ys, ex, q1⟩ := q1
  subst ex
  cases r1 with
  | cons r rr =>
    cases rr with
    | cons r' rr =>
      cases rr
      cases r
      cases r'
      have fresh5 : ∀ c, c ∈ [s1.heap.objs.size + 4, s1.heap.objs.size + 2, s1.heap.objs.size + 3, s1.heap.objs.size, s1.heap.objs.size + 1] → FpOk X pins H1 c := fun c hcm => by
        have e' : c = s1.heap.objs.size + 4 ∨ c = s1.heap.objs.size + 2 ∨ c = s1.heap.objs.size + 3 ∨ c = s1.heap.objs.size ∨ c = s1.heap.objs.size + 1 := by simpa using hcm
        have hle : s1.heap.objs.size ≤ c := by
          rcases e' with z | z | z | z | z
          · rw [z]; exact Nat.le_add_right _ _
          · rw [z]; exact Nat.le_add_right _ _
          · rw [z]; exact Nat.le_add_right _ _
          · rw [z]; exact Nat.le_refl _
          · rw [z]; exact Nat.le_add_right _ _
        exact I1.fpOk hle (I1.hok.fresh hle)
      obtain ⟨hqx, hqy, q⟩ := q1
      obtain ⟨its, rv, p1, _⟩ := I1.list hqx
      obtain ⟨its2, rv2, p2, _⟩ := I1.tuple hqy
      obtain ⟨o2, ho2, _⟩ := id p2
      refine call_zipLT p1.isList (show s1.heap.IsTuple b its2.toArray from p2) fun h' hz hTI hTO h1 h2 hsz hk => wpAny_pyIter_zip hz ?_
      have I2 : Inv X pins σ H1 { s1 with heap := h' } := I1.kept (t' := s1.toks) hk
      exact ⟨s1.heap.objs.size + 4, [s1.heap.objs.size + 4, s1.heap.objs.size + 2, s1.heap.objs.size + 3, s1.heap.objs.size, s1.heap.objs.size + 1], _, _, H1, rfl, I2, turn_zipLT (PySem.W.ktu_apart s1.heap.objs.size a b p1.lt (Heap.lt_size ho2)), ⟨hz, hTI, ⟨_, _, hTO⟩, h1, h2⟩, fresh5, q⟩

end RZ

end
section
set_option Elab.async false
set_option linter.all false
set_option maxRecDepth 100000
set_option maxHeartbeats 1000000
/-! EwV: more typed words. -/
namespace Ew
open PySem PySem.Spec PyProof.Rows L2
theorem passE0 {X : Cx} {σ : L2.St} : PassesAt (L2.CX X.prog X.w) X σ E0 := fun pins H s e s' I c => passL pins σ H s e s' I c
section
variable {W : Wd} {Γ Γ' : Gam} {K : PySem.W.Frag} {T U A C P : Typ} {Ts Us : List Typ} {ds es : List PyData} {d : PyData} {ta : TA} {te tb : TE} {g : TG} {vs : List Nat} {i j : Int}
theorem RpA.rep {M : Addr → Prop} {H : Hp} {vs : List V} {ds : List PyData} (h : RpA M K H vs ds) : ∀ n : Nat, RpA M K H (List.replicate n vs).flatten (List.replicate n ds).flatten
  | 0 => .nil
  | n + 1 => by
    rw [List.replicate_succ, List.replicate_succ, List.flatten_cons, List.flatten_cons]
    exact h.append (RpA.rep h n)
theorem TysV.rep {M B : Addr → Prop} {H : Hp} {vs : List V} (h : TysV M B Ts vs H) : ∀ n : Nat, TysV M B (List.replicate n Ts).flatten (List.replicate n vs).flatten H
  | 0 => True.intro
  | n + 1 => by
    rw [List.replicate_succ, List.replicate_succ, List.flatten_cons, List.flatten_cons]
    exact h.append (TysV.rep h n)
theorem len_rep {α : Type} (l : List α) (n : Nat) : (List.replicate n l).flatten.length = n * l.length := by
  induction n with
  | zero => simp
  | succ n ih => rw [List.replicate_succ, List.flatten_cons, List.length_append, ih]; rw [Nat.succ_mul]; omega
/-- list * int -/
theorem opt_repL (h0 : -1000 ≤ j) (h1 : j ≤ 1000) (hz : Ts.length ≤ 1000) : OpT W rRep (lstT Ts) (dt K (.int j)) (lstT (List.replicate j.toNat Ts).flatten) := fun u v H c hu hv Q q => by
  cases hv
  obtain ⟨a, xs, rfl, ha, h2, h3⟩ := hu
  refine ⟨a, j, xs, rfl, rfl, h2, by omega, by omega, ?_, fun p hp => q _ _ (Ex.new hp) ⟨p, _, rfl, c.nm hp, upd_same, (h3.rep _).up (Ex.new (B := W.B) hp).toW⟩⟩
  have e := h3.length
  refine sz_le ?_
  have : xs.length * j.toNat ≤ 1000 * 1000 := Nat.mul_le_mul (by omega) (by omega)
  omega
/-- tuple * int, not empty, at least 2 -/
theorem opt_repT (h0 : 2 ≤ j) (h1 : j ≤ 1000) (hn : ds ≠ []) (hz : ds.length ≤ 1000) : OpT W (rRepT K) (dt K (.tuple ds)) (dt K (.int j)) (dt K (.tuple (List.replicate j.toNat ds).flatten)) := fun u v H c hu hv Q q => by
  cases hv
  cases hu with
  | @tup a xs _ h2 h3 =>
    have e := h3.length
    refine ⟨a, j, xs, rfl, rfl, h2, fun z => hn ?_, h0, h1, by omega, fun p hp => q _ _ (Ex.new hp) (.tup (SqT.of upd_same) (RpA.up (Ex.new (B := W.B) hp).toW (h3.rep _)))⟩
    subst z
    exact List.eq_nil_of_length_eq_zero (by simpa using e.symm)
/-! ### a list and a tuple together -/
theorem walk_zipLT {a b : Addr} {xs ys : List V} {n : Nat} (hn : n = min xs.length ys.length) : Walk (RZ.ItzLT K a b) n (fun H => SqL K H a xs ∧ SqT K H b ys) (YPair (fun i => xs[i]?) (fun i => ys[i]?)) := by
  subst hn
  refine ⟨fun i _ hi q => ?_, fun _ q => ⟨xs, ys, q.1, q.2, by omega⟩, fun i H v H' _ q y => ?_⟩
  · have h1 : i < xs.length := by omega
    have h2 : i < ys.length := by omega
    exact ⟨xs, ys, xs[i], ys[i], q.1, q.2, by simp [h1], by simp [h2]⟩
  · obtain ⟨T, x, z, h1, h2, h3, h4, h5⟩ := y
    exact ⟨T, x, z, h1, h2, h3, h4 xs q.1, h5 ys q.2⟩
theorem tyi_zipLT (h : TyA W Γ ta [lstT Ts, tupT K Us]) : TyI W Γ (RZ.iZipLT K ta) ((Ts.zip Us).map fun p => tupT K [p.1, p.2]) := fun σ H c g R q => h σ H c g _ fun us H1 e hu => by
  obtain ⟨v, w, rfl, ⟨a, xs, rfl, h0, h2, h3⟩, ⟨b, ys, rfl, h4, h5⟩⟩ := hu.two
  refine ⟨a, b, xs, ys, rfl, SqL.of h2, h4, q _ H1 e ⟨fun H => SqL K H a xs ∧ SqT K H b ys, YPair (fun i => xs[i]?) (fun i => ys[i]?), ?_, ⟨SqL.of h2, h4⟩, fun M' m => ⟨fun Ha Hb f z => ⟨f.sqL (m.nm h2 h0) z.1, f.sqT z.2⟩, fun i Ha x Hb T hT f z y => ?_⟩⟩⟩
  · refine walk_zipLT ?_
    rw [List.length_map, List.length_zip]
    exact zip_len h3.length h5.length
  · obtain ⟨Tp, x0, y0, rfl, hn, rfl, ex, ey⟩ := y
    obtain ⟨A, C, q1, q2, rfl⟩ := zip_map_get hT
    obtain ⟨x1, e1, r1⟩ := (m.tys h3).get q1
    obtain ⟨y1, e2, r2⟩ := (m.tys h5).get q2
    have ex' := e1.symm.trans ex
    cases ex'
    have ey' := e2.symm.trans ey
    cases ey'
    exact ⟨Ex.new hn, Tp, _, rfl, SqT.of upd_same, Typ.up _ (f.trans ((Ex.new (B := W.B) hn).toM m.sub)) r1, Typ.up _ (f.trans ((Ex.new (B := W.B) hn).toM m.sub)) r2, True.intro⟩
theorem tyi_zipLTA {β γ : Type} {as : List β} {bs : List γ} {f : β → PyData} {h : γ → PyData} (ha : Ty W Γ te (dt K (.list (as.map f)))) (hb : Ty W Γ tb (dt K (.tuple (bs.map h)))) :
    TyI W Γ (RZ.iZipLT K (tCons te (tCons tb tNil))) ((as.zip bs).map fun p => tupT K [dt K (f p.1), dt K (h p.2)]) := by
  have z := tyi_zipLT (W := W) (Γ := Γ) (K := K) (Ts := (as.map f).map (dt K)) (Us := (bs.map h).map (dt K)) (tya_cons (ha.sub fun _ _ _ => data_lstT) (tya_cons (hb.sub fun _ _ _ => data_tupT) tya_nil))
  have e : ((((as.map f).map (dt K)).zip ((bs.map h).map (dt K))).map fun p => tupT K [p.1, p.2]) = ((as.zip bs).map fun p => tupT K [dt K (f p.1), dt K (h p.2)]) := by
    rw [List.map_map, List.map_map, List.zip_map, List.map_map]
    rfl
  rw [e] at z
  exact z
theorem opt_repI (h0 : -1000 ≤ j) (h1 : j ≤ 1000) (hz : ds.length ≤ 1000) : OpT W rRep (dt K (.list ds)) (dt K (.int j)) (dt K (.list (List.replicate j.toNat ds).flatten)) := fun u v H c hu hv Q q =>
  opt_repL (Ts := ds.map (dt K)) h0 h1 (by simpa using hz) u v H c (data_lstT hu) hv Q fun w H1 e z => q w H1 e (lstT_data (by
    have e2 : (List.replicate j.toNat (ds.map (dt K))).flatten = ((List.replicate j.toNat ds).flatten).map (dt K) := by rw [List.map_flatten, List.map_replicate]
    rw [e2] at z; exact z))
end
/-! ### words, K told -/
section
variable {X : Cx} {e : Expr} {es : List Expr} {t : TA} {p pos : Pos} {te : TE}
theorem k_len {K : PySem.W.Frag} (hK : X.K = K) (m : X.mg "len" = none) (ha : PA X (e :: es) t) (hg : Gl X "len" := by rfl) (he : starEach (e :: es) X.env = (false, eval e X.env) :: starEach es X.env := by rfl) (hpl : (backTo pos (starEach es X.env)).any (·.1) = false := by rfl) :
    PE X (.Call (.Name "len" p) (e :: es) [] pos) (tCB (rLen K) t) := hK ▸ bi_len m ha hg he hpl
theorem k_isi {K : PySem.W.Frag} (hK : X.K = K) (m : X.mg "isinstance" = none) (ha : PA X (e :: es) t) (hg : Gl X "isinstance" := by rfl) (he : starEach (e :: es) X.env = (false, eval e X.env) :: starEach es X.env := by rfl) (hpl : (backTo pos (starEach es X.env)).any (·.1) = false := by rfl) :
    PE X (.Call (.Name "isinstance" p) (e :: es) [] pos) (tCB (rIsi K) t) := hK ▸ bi_isi m ha hg he hpl
theorem k_isi2 {K : PySem.W.Frag} (hK : X.K = K) (m : X.mg "isinstance" = none) (ha : PA X (e :: es) t) (hg : Gl X "isinstance" := by rfl) (he : starEach (e :: es) X.env = (false, eval e X.env) :: starEach es X.env := by rfl) (hpl : (backTo pos (starEach es X.env)).any (·.1) = false := by rfl) :
    PE X (.Call (.Name "isinstance" p) (e :: es) [] pos) (tCB (rIsiT K) t) := hK ▸ bi_isi2 m ha hg he hpl
theorem k_tuple {K : PySem.W.Frag} (hK : X.K = K) (m : X.mg "tuple" = none) (ha : PA X (e :: es) t) (hg : Gl X "tuple" := by rfl) (he : starEach (e :: es) X.env = (false, eval e X.env) :: starEach es X.env := by rfl) (hpl : (backTo pos (starEach es X.env)).any (·.1) = false := by rfl) :
    PE X (.Call (.Name "tuple" p) (e :: es) [] pos) (tCB (rTupOf K) t) := hK ▸ bi_tuple m ha hg he hpl
theorem k_list {K : PySem.W.Frag} (hK : X.K = K) (m : X.mg "list" = none) (ha : PA X (e :: es) t) (hg : Gl X "list" := by rfl) (he : starEach (e :: es) X.env = (false, eval e X.env) :: starEach es X.env := by rfl) (hpl : (backTo pos (starEach es X.env)).any (·.1) = false := by rfl) :
    PE X (.Call (.Name "list" p) (e :: es) [] pos) (tCB (rLstOf K) t) := hK ▸ bi_list m ha hg he hpl
theorem k_sum {K : PySem.W.Frag} (hK : X.K = K) (m : X.mg "sum" = none) (ha : PA X (e :: es) t) (hc : X.calm = true := by rfl) (hg : Gl X "sum" := by rfl) (he : starEach (e :: es) X.env = (false, eval e X.env) :: starEach es X.env := by rfl) (hpl : (backTo pos (starEach es X.env)).any (·.1) = false := by rfl) :
    PE X (.Call (.Name "sum" p) (e :: es) [] pos) (tCB (rSum K) t) := hK ▸ bi_sum m ha hc hg he hpl
theorem k_all {K : PySem.W.Frag} (hK : X.K = K) (m : X.mg "all" = none) (ha : PA X (e :: es) t) (hc : X.calm = true := by rfl) (hg : Gl X "all" := by rfl) (he : starEach (e :: es) X.env = (false, eval e X.env) :: starEach es X.env := by rfl) (hpl : (backTo pos (starEach es X.env)).any (·.1) = false := by rfl) :
    PE X (.Call (.Name "all" p) (e :: es) [] pos) (tCB (rAll K) t) := hK ▸ bi_all m ha hc hg he hpl
theorem k_max1 {K : PySem.W.Frag} (hK : X.K = K) (m : X.mg "max" = none) (ha : PA X (e :: es) t) (hc : X.calm = true := by rfl) (hg : Gl X "max" := by rfl) (he : starEach (e :: es) X.env = (false, eval e X.env) :: starEach es X.env := by rfl) (hpl : (backTo pos (starEach es X.env)).any (·.1) = false := by rfl) :
    PE X (.Call (.Name "max" p) (e :: es) [] pos) (tCB (rMax K) t) := hK ▸ bi_max1 m ha hc hg he hpl
theorem k_add {K : PySem.W.Frag} (hK : X.K = K) : OpR X (binaryOp .Add) (rAddA K) := hK ▸ op_addA
theorem k_eq {K : PySem.W.Frag} (hK : X.K = K) (hu : X.A.units + 64 < cLine) : OpR X (compareOp .Eq) (rEqA K) := hK ▸ op_eqA hu
theorem k_ne {K : PySem.W.Frag} (hK : X.K = K) (hu : X.A.units + 64 < cLine) : OpR X (compareOp .NotEq) (rNeA K) := hK ▸ op_neA hu
theorem k_repT {K : PySem.W.Frag} (hK : X.K = K) : OpR X (binaryOp .Mult) (rRepT K) := hK ▸ op_repT
theorem k_ix {K : PySem.W.Frag} (hK : X.K = K) : IxR X (rIx K) := hK ▸ ix_seq
theorem k_slT {K : PySem.W.Frag} (hK : X.K = K) : SlR X (rSlT K) := hK ▸ sl_tup
theorem k_slL {K : PySem.W.Frag} (hK : X.K = K) : SlR X (rSlL K) := hK ▸ sl_list
theorem k_itup {K : PySem.W.Frag} (hK : X.K = K) {tg l : Expr} {tl : TE} (hl : PE X l tl) : PI X tg l (iTup K tl) := hK ▸ pi_tup hl
theorem k_ilist {K : PySem.W.Frag} (hK : X.K = K) {tg l : Expr} {tl : TE} (hl : PE X l tl) : PI X tg l (iList K tl) := hK ▸ pi_list hl
theorem k_ienum {K : PySem.W.Frag} (hK : X.K = K) {tpos : Pos} {elts : List Expr} {kk : Nat} (hm : X.mg "enumerate" = none) (ha : PA X [e] t) (hg : Gl X "enumerate" := by rfl) (hs : starEach [e] X.env = [(false, eval e X.env)] := by rfl) :
    PI X (.Tuple elts kk tpos) (.Call (.Name "enumerate" p) [e] [] pos) (iEnum K t) := hK ▸ pi_enum hg hm ha hs
theorem k_izip {K : PySem.W.Frag} (hK : X.K = K) {e2 : Expr} {tpos : Pos} {elts : List Expr} {kk : Nat} (hm : X.mg "zip" = none) (ha : PA X [e, e2] t) (hg : Gl X "zip" := by rfl) (hs : starEach [e, e2] X.env = (false, eval e X.env) :: starEach [e2] X.env := by rfl) (hpl : (backTo pos (starEach [e2] X.env)).any (·.1) = false := by rfl) :
    PI X (.Tuple elts kk tpos) (.Call (.Name "zip" p) [e, e2] [] pos) (RZ.iZipA K t) := hK ▸ RZ.pi_zipA hg hm ha hs hpl
theorem k_izipLT {K : PySem.W.Frag} (hK : X.K = K) {e2 : Expr} {tpos : Pos} {elts : List Expr} {kk : Nat} (hm : X.mg "zip" = none) (ha : PA X [e, e2] t) (hg : Gl X "zip" := by rfl) (hs : starEach [e, e2] X.env = (false, eval e X.env) :: starEach [e2] X.env := by rfl) (hpl : (backTo pos (starEach [e2] X.env)).any (·.1) = false := by rfl) :
    PI X (.Tuple elts kk tpos) (.Call (.Name "zip" p) [e, e2] [] pos) (RZ.iZipLT K t) := hK ▸ RZ.pi_zipLT hg hm ha hs hpl
theorem k_gtup {K : PySem.W.Frag} (hK : X.K = K) {ts : List Expr} {k : Nat} {u : TGs} {n : Nat} (h : PGs X ts u) (hc : X.calm = true := by rfl) (hn : (assignEach ts X.env).length = n := by rfl) (hst : (assignEach ts X.env).findIdx? (·.1) = none := by rfl) : PG X (.Tuple ts k pos) (gTup K n u) := hK ▸ pg_tup hc h hn hst
theorem k_gunl {K : PySem.W.Frag} (hK : X.K = K) {ts : List Expr} {k : Nat} {u : TGs} {n : Nat} (h : PGs X ts u) (hc : X.calm = true := by rfl) (hn : (assignEach ts X.env).length = n := by rfl) (hst : (assignEach ts X.env).findIdx? (·.1) = none := by rfl) : PG X (.Tuple ts k pos) (gUnl K n u) := hK ▸ pg_unl hc h hn hst
end
end Ew

end
section
set_option Elab.async false
set_option linter.all false
set_option maxRecDepth 100000
set_option maxHeartbeats 1000000
/-! EwU: lines and tables of ints as data; their equality; more typed words. -/
namespace Ew
open PySem PySem.Spec PyProof.Rows L2
def sizeD : PyData → Nat
  | .tuple l => l.length
  | .list l => l.length
  | .str s => s.length
  | .dict l => l.length
  | _ => 0
def intsD (l : List Int) : PyData := .tuple (l.map .int)
def linD (l : List Int) : PyData := .list (l.map .int)
def tabD (m : List (List Int)) : PyData := .tuple (m.map intsD)
def sm (v : Int) : Prop := v.natAbs < 2 ^ 4096
theorem sm_log {v : Int} (h : sm v) : v.natAbs.log2 < 5000 := by
  by_cases z : v.natAbs = 0
  · rw [z]; decide
  · have := (Nat.log2_lt z).mpr h
    omega
theorem sm_mul {a b : Int} (h : sm a) (k : sm b) : L2.CMulW a b := by
  have h1 := sm_log h
  have h2 := sm_log k
  unfold L2.CMulW
  omega
def sml (l : List Int) : Prop := l.length ≤ 1000 ∧ ∀ v ∈ l, sm v
def smt (m : List (List Int)) : Prop := m.length ≤ 1000 ∧ ∀ l ∈ m, sml l
def isWholeD : PyData → Bool
  | .int _ => true
  | _ => false
/-! ### equality of data -/
theorem lay_whole : ∀ {ds : List PyData}, ds.all isWholeD = true → PyData.canLayAll0 ds = true ∧ PyData.depthAll ds = 0
  | [], _ => ⟨rfl, rfl⟩
  | d :: ds, h => by
    rw [List.all_cons, Bool.and_eq_true] at h
    obtain ⟨h1, h2⟩ := h
    obtain ⟨k1, k2⟩ := lay_whole h2
    cases d <;> simp [isWholeD] at h1
    exact ⟨by simp [PyData.canLayAll0, PyData.canLay0, k1], by simp [PyData.depthAll, PyData.depth, k2]⟩
theorem shaped_whole {ds : List PyData} (h : ds.all isWholeD = true) : SeqAt.shaped (.tuple ds) = true := by
  obtain ⟨k1, k2⟩ := lay_whole h
  simp [SeqAt.shaped, PyData.canLay0, PyData.depth, k1, k2]
theorem all_whole (l : List Int) : (l.map PyData.int).all isWholeD = true := by
  rw [List.all_map]
  exact List.all_eq_true.mpr fun _ _ => rfl
theorem shaped_ints (l : List Int) : SeqAt.shaped (intsD l) = true := shaped_whole (all_whole l)
theorem lay_tab : ∀ m : List (List Int), PyData.canLayAll0 (m.map intsD) = true ∧ PyData.depthAll (m.map intsD) ≤ 1
  | [] => ⟨rfl, by simp [PyData.depthAll]⟩
  | l :: m => by
    obtain ⟨k1, k2⟩ := lay_tab m
    obtain ⟨h1, h2⟩ := lay_whole (all_whole l)
    refine ⟨?_, ?_⟩
    · rw [List.map_cons, PyData.canLayAll0, k1, intsD, PyData.canLay0, h1]; rfl
    · rw [List.map_cons, PyData.depthAll, intsD, PyData.depth, h2]
      exact Nat.max_le.mpr ⟨Nat.le_refl _, k2⟩
theorem shaped_tab (m : List (List Int)) : SeqAt.shaped (tabD m) = true := by
  obtain ⟨k1, k2⟩ := lay_tab m
  unfold SeqAt.shaped tabD
  rw [PyData.canLay0, k1, PyData.depth, Bool.true_and]
  exact decide_eq_true (by omega)
theorem eqv_nil (ds : List PyData) : PyData.eqv (.tuple ds) (.tuple []) = decide (ds.length = 0) := by
  cases ds <;> simp [PyData.eqv, PyData.eqvAll]
theorem eqv_nilL (ds : List PyData) : PyData.eqv (.list ds) (.list []) = decide (ds.length = 0) := by
  cases ds <;> simp [PyData.eqv, PyData.eqvAll]
theorem eqvAll_ints : ∀ a b : List Int, PyData.eqvAll (a.map .int) (b.map .int) = decide (a = b)
  | [], [] => by simp [PyData.eqvAll]
  | [], b :: bs => by simp [PyData.eqvAll]
  | a :: as, [] => by simp [PyData.eqvAll]
  | a :: as, b :: bs => by
    rw [List.map_cons, List.map_cons, PyData.eqvAll, eqvAll_ints as bs, PyData.eqv]
    by_cases h1 : a = b <;> by_cases h2 : as = bs <;> simp [h1, h2]
theorem eqv_ints (a b : List Int) : PyData.eqv (intsD a) (intsD b) = decide (a = b) := by
  rw [intsD, intsD, PyData.eqv, eqvAll_ints]
theorem eqvAll_tab : ∀ a b : List (List Int), PyData.eqvAll (a.map intsD) (b.map intsD) = decide (a = b)
  | [], [] => by simp [PyData.eqvAll]
  | [], b :: bs => by simp [PyData.eqvAll]
  | a :: as, [] => by simp [PyData.eqvAll]
  | a :: as, b :: bs => by
    rw [List.map_cons, List.map_cons, PyData.eqvAll, eqvAll_tab as bs, eqv_ints]
    by_cases h1 : a = b <;> by_cases h2 : as = bs <;> simp [h1, h2]
theorem eqv_tab (a b : List (List Int)) : PyData.eqv (tabD a) (tabD b) = decide (a = b) := by
  rw [tabD, tabD, PyData.eqv, eqvAll_tab]
section
variable {W : Wd} {Γ Γ' : Gam} {K : PySem.W.Frag} {T U A C P : Typ} {Ts Us : List Typ} {ds es : List PyData} {d : PyData} {ta tc : TA} {te tb td : TE} {g : TG} {vs : List Nat} {i j : Int} {r r' : R2} {a b : Bool}
theorem ty_chain {ta tb tc : TE} (h1 : Ty W Γ ta A) (h2 : Ty W Γ tb C) (ho : OpT W r A C (dt K (.bool a))) (h3 : a = true → Ty W Γ tc P) (ho' : OpT W r' C P (dt K (.bool b))) : Ty W Γ (tChain r r' ta tb tc) (dt K (.bool (a && b))) := fun σ H c g Q q =>
  h1 σ H c g _ fun u H1 e1 hu => h2 σ H1 (c.up e1) (g.up e1.toW) _ fun v H2 e2 hv => ho u v H2 (c.up (e1.trans e2)) (A.up e2.toW hu) hv _ fun z H3 e3 hz => by
    have e13 := e1.trans (e2.trans e3)
    cases hz
    refine ⟨a, rfl, ?_⟩
    cases a with
    | true =>
      rw [if_pos rfl]
      exact h3 rfl σ H3 (c.up e13) (g.up e13.toW) _ fun w H4 e4 hw => ho' v w H4 (c.up (e13.trans e4)) (C.up (e3.trans e4).toW hv) hw Q fun z H5 e5 hz => q z H5 (e13.trans (e4.trans e5)) (by rw [Bool.true_and]; exact hz)
    | false =>
      rw [if_neg Bool.false_ne_true]
      exact q _ H3 e13 (.bl _)
theorem opt_ix0 : OpT W (rIx K) (dt K (.tuple (d :: ds))) (dt K (.int 0)) (dt K d) := opt_ixT (i := 0) (atI_nat (j := 0) rfl)
theorem opt_ixTN {n : Nat} (e : ds[n]? = some d) : OpT W (rIx K) (dt K (.tuple ds)) (dt K (.int (n : Nat))) (dt K d) := opt_ixT (atI_nat e)
theorem opt_eqNil (h : ds.all isWholeD = true) : OpT W (rEqA K) (dt K (.tuple ds)) (dt K (.tuple [])) (dt K (.bool (decide (ds.length = 0)))) := by
  have z := opt_eqD (W := W) (K := K) (shaped_whole h) (show SeqAt.shaped (.tuple []) = true from rfl)
  rw [eqv_nil] at z
  exact z
theorem opt_eqT {a b : List (List Int)} : OpT W (rEqA K) (dt K (tabD a)) (dt K (tabD b)) (dt K (.bool (decide (a = b)))) := by
  have z := opt_eqD (W := W) (K := K) (shaped_tab a) (shaped_tab b)
  rw [eqv_tab] at z
  exact z
/-- what is empty is the empty list -/
theorem opt_eqL0 : OpT W (rEqA K) (dt K (.list [])) (dt K (.list [])) (dt K (.bool true)) := (opt_eqD (W := W) (K := K) (d := .list []) (e := .list []) rfl rfl)
end
end Ew

end
section
set_option Elab.async false
set_option linter.all false
set_option maxRecDepth 100000
set_option maxHeartbeats 1000000
/-! EwT: defs that hand back a new list; boxes; lists of unknowns. -/
namespace Ew
open PySem PySem.Spec PyProof.Rows L2
/-- a new list of values of the types Ts x -/
def spL {α : Type} (C : α → Prop) (A : α → List Typ) (Ts : α → List Typ) : Sp := fun vs H Q _ => ∃ (M B : Addr → Prop) (x : α), (∀ a, B a → M a) ∧ (∀ a, B a → BoxAt H a) ∧ (∀ a, M a → H a ≠ none) ∧ C x ∧ TysV M B (A x) vs H ∧
  ∀ p xs H', Ex B H H' → H p = none → H' p = some (.lst xs) → TysV M B (Ts x) xs H' → Q (.ref p) H'
def rL (W : Wd) (Ts : List Typ) : V → Hp → Prop := fun v H => ∃ p xs, v = .ref p ∧ Ex W.B W.H0 H ∧ W.H0 p = none ∧ H p = some (.lst xs) ∧ TysV W.M W.B Ts xs H
section
variable {W : Wd} {Γ : Gam} {tl : TA} {te : TE} {α : Type} {C : α → Prop} {A Ts : α → List Typ} {E : XK}
theorem tyl_call (x : α) (hC : C x) (h : TyA W Γ tl (A x)) : TyL W Γ (tCall (spL C A Ts) [] E tl) (Ts x) := fun σ H c g Q q =>
  h σ H c g _ fun vs H1 e1 hv => ⟨W.M, W.B, x, W.sub, (c.up e1).box, (c.up e1).al, hC, by rw [List.append_nil]; exact hv, fun p xs H2 e2 hp h2 h3 => q p xs H2 (e1.trans e2) (e1.free hp) h2 h3⟩
theorem tys_retL {Us : List Typ} {Bk Ct : Sx → Hp → Prop} (h : TyL W Γ te Us) : TyS W Γ (tRet te) noN (rL W Us) Bk Ct := fun σ H c g D _ dr _ _ => h σ H c g _ fun p xs H1 e hp h1 h2 => dr _ H1 ⟨p, xs, rfl, (c.up e).ex, c.ex.free hp, h1, h2⟩
variable {P : Program} {w : World} {K : PySem.W.Frag} {mg : Str → Option Value} {base : Heap}
theorem fn_tyL {x qual : Str} {st : Stmt} {f : Addr} {fd : FuncData} {N ps : List Str} {k : Nat} (F : Fun K x qual st f fd) (S : FnScope N ps (defScope st))
    (len : ∀ x, C x → (A x).length = ps.length)
    (hbody : ∀ (cdv : Value) (Ar : Around) (outer : List Env) (s : Shared) (H : Hp) (E : XK), Room k (Ar.deeper (envOfC qual (defScope st) s.heap.objs.size f cdv)) →
      ∃ t, PSs (cxOf (L2.CX P w) P w K mg base N qual (defScope st) f cdv Ar outer s H E).nox (defBody st) t ∧ ∀ (W : Wd) (x : α), C x → TyS W ((A x).map some ++ List.replicate (N.length - ps.length) none) t noN (rL W (Ts x)) noN noN) :
    FnOk P w K mg base (L2.CX P w) (k + 1) f fd ps (spL C A Ts) := by
  refine okN F S (fun vs H Q E h => ?_) fun cdv Ar outer s H vs Q E hr h => ?_
  · obtain ⟨M, B, x, _, _, _, hC, h, _⟩ := h
    rw [h.length, len x hC]
  · obtain ⟨M, B, x, hs, hb, ha, hC, h, q⟩ := h
    obtain ⟨t, ht, k⟩ := hbody cdv Ar outer s H E hr
    refine ⟨t, ht, k (Wd.base M B H hs) x hC (L2.start N vs) H ⟨hb, ha, Ex.refl B H, True.intro⟩ ?_ _ (fun σ' H' _ n => n.elim) (fun v H' n => ?_) (fun _ _ _ z => z.elim) (fun _ _ _ z => z.elim)⟩
    · unfold L2.start
      have e : vs.length = ps.length := by rw [h.length, len x hC]
      rw [e]
      exact env_start h _
    · obtain ⟨p, xs, rfl, h1, h2, h3, h4⟩ := n
      exact q p xs H' h1 h2 h3 h4
end
/-! ### a new box -/
/-- the box at p is one more -/
def Wd.bx (W : Wd) (p : Addr) : Wd := ⟨Ew.ad W.M p, fun a => W.B a ∨ a = p, W.H0, fun H => ∃ H1, W.Ω H1 ∧ H1 p = none ∧ Ex (fun a => W.B a ∨ a = p) H1 H, fun a h => h.imp (W.sub a) id, fun e ⟨H1, h1, h2, h3⟩ => ⟨H1, h1, h2, h3.trans e⟩⟩
theorem Ex.less {B : Addr → Prop} {p : Addr} {H H' : Hp} (e : Ex (fun a => B a ∨ a = p) H H') (h : H p = none) : Ex B H H' := fun a o q => (e a o q).imp id fun ⟨b, z⟩ => ⟨b.elim id fun w => absurd h (by rw [← w, q]; exact fun z => nomatch z), z⟩
theorem Ex.more {B : Addr → Prop} {p : Addr} {H H' : Hp} (e : Ex B H H') : Ex (fun a => B a ∨ a = p) H H' := e.sub fun _ h => .inl h
theorem Exm.thru {M B : Addr → Prop} {p : Addr} {H H1 H2 : Hp} (e : Exm M B H H1) (f : Exm (ad M p) (fun a => B a ∨ a = p) H1 H2) (hp : H p = none) : Exm M B H H2 := fun a o h => by
  have ne := ne_of_none h hp
  rcases e a o h with q | ⟨m, ⟨xs, rfl⟩, ⟨ys, q⟩, b⟩
  · rcases f a o q with r | ⟨m, x, y, b⟩
    · exact .inl r
    · exact .inr ⟨m.resolve_right ne, x, y, fun z z2 => b (.inl z) (by obtain ⟨xs, z3, z4⟩ := z2; rw [h] at z3; cases z3; exact ⟨xs, q, z4⟩)⟩
  · rcases f a _ q with r | ⟨_, _, y, b'⟩
    · exact .inr ⟨m, ⟨xs, rfl⟩, ⟨ys, r⟩, fun z1 z2 => by
        obtain ⟨zs, z3, z4⟩ := b z1 z2
        rw [q] at z3; cases z3
        exact ⟨ys, r, z4⟩⟩
    · exact .inr ⟨m, ⟨xs, rfl⟩, y, fun z1 z2 => b' (.inl z1) (b z1 z2)⟩
section
variable {W : Wd} {Γ Γ' : Gam} {te : TE} {tw : TS} {i : Nat} {Ts : List Typ} {T : Typ} {Bk Ct : Sx → Hp → Prop}
/-- box = .., then the rest in the wider world; behind it the slots of Γ' -/
theorem tys_box (h : TyL W Γ te Ts) (hx : ∀ xs H, TysV W.M W.B Ts xs H → BxL xs)
    (hΓ : ∀ p σ H0 H, Exm W.M W.B H0 H → H0 p = none → EnvL W.M W.B Γ σ H0 → EnvL (ad W.M p) (fun a => W.B a ∨ a = p) Γ σ H)
    (hb : ∀ p, ¬ W.M p → TyS (W.bx p) (Γ.set i (some bx)) tw (nE (W.bx p) Γ') (rW (W.bx p) T) noN noN)
    (hn : ∀ p σ H, EnvL (ad W.M p) (fun a => W.B a ∨ a = p) Γ' σ H → EnvL W.M W.B Γ' σ H) (hT : ∀ p v H, T.p (ad W.M p) (fun a => W.B a ∨ a = p) v H → T.p W.M W.B v H) :
    TyS W Γ (tSeq (tAsg te (gName i)) tw) (nE W Γ') (rW W T) Bk Ct := fun σ H c g D dn dr db dc =>
  h σ H c g _ fun p xs H1 e hp h1 h2 => by
    have n0 : W.H0 p = none := c.ex.free hp
    have nm : ¬ W.M p := c.nm hp
    have bx1 : BoxAt H1 p := ⟨xs, h1, hx xs H1 h2⟩
    have c1 := c.up e
    have c2 : Cxt (W.bx p) H1 := ⟨fun a z => z.elim (c1.box a) (fun w => by rw [w]; exact bx1), fun a z => z.elim (c1.al a) (fun w => by rw [w, h1]; intro q; cases q), c1.ex.more, H, c.own, hp, e.more⟩
    have g1 : EnvL (ad W.M p) (fun a => W.B a ∨ a = p) Γ σ H1 := hΓ p σ H H1 e.toW hp g
    have g2 : EnvL (ad W.M p) (fun a => W.B a ∨ a = p) (Γ.set i (some bx)) (σ.set i (some (.ref p))) H1 := EnvL.set (T := bx) ⟨p, rfl, .inr rfl, bx1⟩ g1
    refine hb p nm _ H1 c2 g2 D (fun σ' H' f n => dn σ' H' (e.toW.thru f hp) ⟨?_, hn p σ' H' n.2⟩) (fun v H' n => dr v H' ⟨n.1.less n0, hT p v H' n.2⟩) (fun _ _ _ z => z.elim) (fun _ _ _ z => z.elim)
    refine ⟨fun a z => n.1.box a (.inl z), fun a z => n.1.al a (.inl z), n.1.ex.less n0, ?_⟩
    obtain ⟨H2, o1, o2, o3⟩ := n.1.own
    exact W.kept (o3.less o2) o1
/-! ### values of which just something is known -/
theorem exT_list {α : Type} {A : α → Typ} {M B : Addr → Prop} {H : Hp} : ∀ {n : Nat} {xs : List V}, TysV M B (List.replicate n (exT A)) xs H → ∃ l : List α, l.length = n ∧ TysV M B (l.map A) xs H
  | 0, [], _ => ⟨[], rfl, True.intro⟩
  | n + 1, x :: xs, h => by
    obtain ⟨⟨y, hy⟩, h2⟩ := h
    obtain ⟨l, e, k⟩ := exT_list (n := n) h2
    exact ⟨y :: l, by rw [List.length_cons, e], hy, k⟩
  | 0, _ :: _, h => h.elim
  | n + 1, [], h => h.elim
theorem gd_list {α : Type} {A : α → Typ} {φ : α → Prop} {M B : Addr → Prop} {H : Hp} : ∀ {l : List α} {xs : List V}, TysV M B (l.map fun x => gd (φ x) (A x)) xs H → (∀ x ∈ l, φ x) ∧ TysV M B (l.map A) xs H
  | [], [], _ => ⟨(fun _ z => by cases z), True.intro⟩
  | y :: l, x :: xs, h => by
    obtain ⟨⟨h1, h2⟩, h3⟩ := h
    obtain ⟨k1, k2⟩ := gd_list (l := l) h3
    refine ⟨fun z hz => ?_, h2, k2⟩
    rcases List.mem_cons.mp hz with rfl | hz
    · exact h1
    · exact k1 z hz
  | [], _ :: _, h => h.elim
  | _ :: _, [], h => h.elim
/-- [.. for ..]: n values of one kind -/
theorem TyL.exs {α : Type} {A : α → Typ} {φ : α → Prop} {n : Nat} {K : PySem.W.Frag} (h : TyL W Γ te (List.replicate n (exT fun x : α => gd (φ x) (A x)))) :
    Ty W Γ (tCB (rTupOf K) (tCons te tNil)) (exT fun l : List α => gd (l.length = n ∧ ∀ x ∈ l, φ x) (tupT K (l.map A))) := (ty_tupOf (K := K) h).sub fun v H _ z => by
  obtain ⟨a, xs, h1, h2, h3⟩ := z
  obtain ⟨l, e, k⟩ := exT_list h3
  obtain ⟨k1, k2⟩ := gd_list k
  exact ⟨l, ⟨e, k1⟩, a, xs, h1, h2, k2⟩
theorem Ty.exs {α β : Type} {A : α → Typ} {C : β → Typ} (h : Ty W Γ te (exT A)) (k : ∀ x v H, (A x).at W v H → ∃ y, (C y).at W v H) : Ty W Γ te (exT C) := h.sub fun v H _ ⟨x, z⟩ => k x v H z
theorem Ty.ex {α : Type} {A : α → Typ} (x : α) (h : Ty W Γ te (A x)) : Ty W Γ te (exT A) := h.sub fun v H _ z => ⟨x, z⟩
/-- an operator on an unknown -/
theorem ty_opX {α β : Type} {A : α → Typ} {C : Typ} {P : β → Typ} {r : R2} {ta tb : TE} (ha : Ty W Γ ta (exT A)) (hb : Ty W Γ tb C) (ho : ∀ x, ∃ y, OpT W r (A x) C (P y)) : Ty W Γ (tOp r ta tb) (exT P) := ty_op ha hb fun u v H c ⟨x, hu⟩ hv Q q => by
  obtain ⟨y, k⟩ := ho x
  exact k u v H c hu hv Q fun w H1 e z => q w H1 e ⟨y, z⟩
theorem ty_opY {α β : Type} {A : Typ} {C : α → Typ} {P : β → Typ} {r : R2} {ta tb : TE} (ha : Ty W Γ ta A) (hb : Ty W Γ tb (exT C)) (ho : ∀ x, ∃ y, OpT W r A (C x) (P y)) : Ty W Γ (tOp r ta tb) (exT P) := ty_op ha hb fun u v H c hu ⟨x, hv⟩ Q q => by
  obtain ⟨y, k⟩ := ho x
  exact k u v H c hu hv Q fun w H1 e z => q w H1 e ⟨y, z⟩
end
theorem OpT.gdl {W : Wd} {r : R2} {φ : Prop} {A C P : Typ} (h : φ → OpT W r A C P) : OpT W r (gd φ A) C P := fun u v H c ⟨f, hu⟩ hv Q q => h f u v H c hu hv Q q
theorem OpT.gdr {W : Wd} {r : R2} {φ : Prop} {A C P : Typ} (h : φ → OpT W r A C P) : OpT W r A (gd φ C) P := fun u v H c hu ⟨f, hv⟩ Q q => h f u v H c hu hv Q q
/-- a number below n, of which no more is known -/
def digT (K : PySem.W.Frag) (n : Nat) : Typ := exT fun k : Nat => gd (k < n) (dt K (.int (k : Nat)))
/-- one of these -/
def anyT (Ts : List Typ) : Typ := exT fun n : Nat => gd (n < Ts.length) (Ts.getD n (isV .non))
theorem ty_pick {W : Wd} {Γ : Gam} {K : PySem.W.Frag} {ta tb : TE} {Ts : List Typ} {n : Nat} (ha : Ty W Γ ta (lstT Ts)) (hb : Ty W Γ tb (digT K n)) (hn : n ≤ Ts.length) : Ty W Γ (tOp (rIx K) ta tb) (anyT Ts) := ty_opY ha hb fun k => by
  refine ⟨k, OpT.gdr fun f => ?_⟩
  have hk : k < Ts.length := by omega
  have e : Ts[k]? = some (Ts.getD k (isV .non)) := by rw [List.getD_eq_getElem?_getD, List.getElem?_eq_getElem hk]; rfl
  exact fun u v H c hu hv Q q => opt_ixLT e u v H c hu hv Q fun w H1 e1 z => q w H1 e1 ⟨hk, z⟩
end Ew

end
section
set_option Elab.async false
set_option linter.all false
set_option maxRecDepth 100000
set_option maxHeartbeats 1000000
/-! EwS: readings whose value is known, at a heap that is known. -/
namespace Ew
open PySem PySem.Spec PyProof.Rows L2
/-- te yields v and leaves the heap -/
def Ev (te : TE) (σ : Sx) (H : Hp) (v : V) : Prop := ∀ Q : VK, Q v H → te σ H Q
def EvA (tl : TA) (σ : Sx) (H : Hp) (vs : List V) : Prop := ∀ Q : List V → Hp → Prop, Q vs H → tl σ H Q
section
variable {σ : Sx} {H : Hp} {K : PySem.W.Frag} {te ta tb : TE} {tl : TA} {u v w : V} {vs : List V} {i j : Int} {n : Nat} {p : Addr} {xs : List V} {a b : Bool}
theorem ev_var (h : σ[n]? = some (some v)) : Ev (tVar n) σ H v := fun Q q => ⟨v, h, q⟩
theorem ev_c : Ev (tC v) σ H v := fun Q q => q
theorem ev_op {r : R2} (ha : Ev ta σ H u) (hb : Ev tb σ H v) (hr : ∀ Q : VK, Q w H → r u v H Q) : Ev (tOp r ta tb) σ H w := fun Q q => ha _ (hb _ (hr Q q))
theorem ev_I0 {g : Int → Int → V} (ha : Ev ta σ H (.int i)) (hb : Ev tb σ H (.int j)) : Ev (tOp (rI0 g) ta tb) σ H (g i j) := ev_op ha hb fun Q q => ⟨i, j, rfl, rfl, q⟩
theorem ev_I {D : Int → Int → Prop} {g : Int → Int → V} (hd : D i j) (ha : Ev ta σ H (.int i)) (hb : Ev tb σ H (.int j)) : Ev (tOp (rI D g) ta tb) σ H (g i j) := ev_op ha hb fun Q q => ⟨i, j, rfl, rfl, hd, q⟩
theorem ev_add (ha : Ev ta σ H (.int i)) (hb : Ev tb σ H (.int j)) : Ev (tOp (rAddA K) ta tb) σ H (.int (i + j)) := ev_op ha hb fun Q q => .inl ⟨i, j, rfl, rfl, q⟩
theorem ev_mul (hd : CMul i j) (ha : Ev ta σ H (.int i)) (hb : Ev tb σ H (.int j)) : Ev (tOp rMulA ta tb) σ H (.int (i * j)) := ev_op ha hb fun Q q => .inl ⟨i, j, rfl, rfl, hd, q⟩
theorem ev_div (hd : CDivW i j) (ha : Ev ta σ H (.int i)) (hb : Ev tb σ H (.int j)) : Ev (tOp rDivA ta tb) σ H (.int (i / j)) := ev_op ha hb fun Q q => .inl ⟨i, j, rfl, rfl, hd, q⟩
theorem ev_ix (hH : H p = some (.lst xs)) (e : atI xs i = some w) (ha : Ev ta σ H (.ref p)) (hb : Ev tb σ H (.int i)) : Ev (tOp (rIx K) ta tb) σ H w := ev_op ha hb fun Q q => .inl ⟨p, xs, i, w, rfl, rfl, SqL.of hH, e, q⟩
theorem eva_nil : EvA tNil σ H [] := fun Q q => q
theorem eva_cons (ha : Ev te σ H v) (hr : EvA tl σ H vs) : EvA (tCons te tl) σ H (v :: vs) := fun Q q => ha _ (hr _ q)
theorem ev_int (h : Ev te σ H (.int i)) : Ev (tCB rInt (tCons te tNil)) σ H (.int i) := fun Q q => h _ (.inl ⟨i, rfl, q⟩)
theorem Ev.tt {Q : Bool → Hp → Prop} (h : Ev te σ H (.bl a)) (q : Q a H) : tTest te σ H Q := h _ ⟨a, rfl, q⟩
theorem Ev.tbl {Q : Bool → Hp → Prop} (h : Ev te σ H (.bl a)) (q : Q a H) : tB te σ H Q := h _ ⟨a, rfl, q⟩
/-- x[j] = e, x a list -/
theorem ev_put {D : Ends} {tj : TE} {k : Nat} (he : Ev te σ H v) (hx : Ev ta σ H (.ref p)) (hj : Ev tj σ H (.int i)) (hH : H p = some (.lst xs)) (hk : ixN xs.length i = some k) (q : D.nx σ (upd H p (.lst (xs.set k v)))) : tAsg te (gSub ta tj rSetL) D σ H :=
  he _ (hx _ (hj _ ⟨p, xs, i, k, rfl, rfl, hH, hk, q⟩))
end
end Ew

end
section
set_option Elab.async false
set_option linter.all false
set_option maxRecDepth 100000
set_option maxHeartbeats 2000000
/-! EwQ: enumerate of a tuple (turned from the worked proofs for a list). -/
namespace PySem
open Sem (wp)
open AutoSeq1 (wpAny_loadPart')
theorem meets_enumerate_newT (l : Addr) (items : Array Value) (n : Nat) (dct : Option Addr) (sl : Array (Option Value)) :
    Meets (Builtin.«enumerate.__new__» ⟨[.type "enumerate", .ref l], []⟩) (fun _ R s => s.heap.get? l = some { cls := .type "tuple", dict := dct, data := .seq items n, slots := sl } ∧
      R (.ok (.ret (.ref (s.heap.push { cls := .type "tuple_iterator", data := .fields #[.ref l, .int 0 0] }).objs.size)))
        { s with heap := (s.heap.push { cls := .type "tuple_iterator", data := .fields #[.ref l, .int 0 0] }).push { cls := .type "enumerate", data := .fields #[.none, .bool false, .ref s.heap.objs.size, rawInt 0, .none, .none] } }) :=
  .of_wp fun prog w A R s h => by
    obtain ⟨hp, g, d, tk, os⟩ := s; obtain ⟨hl, h⟩ := h
    have hsub := sub_enumerate
    have hL : Heap.IsTuple (Shared.heap ⟨hp, g, d, tk, os⟩) l items := ⟨_, hl, rfl, n, rfl⟩
    wp_walk using wpAny_loadPart' hl
    refine wpAny_stack_any fun st => wpAny_pure ?_
    split
    · rename_i c _ _ _ _ _
      cases (c == Value.type "enumerate")
      · wp_walk using wpAny_loadPart' hl, wpAny_pyIter_tuple hL
        exact ⟨_, rfl, h⟩
      · wp_walk using wpAny_loadPart' hl, wpAny_pyIter_tuple hL
        exact ⟨_, rfl, h⟩
    · wp_walk using wpAny_loadPart' hl, wpAny_pyIter_tuple hL
      exact ⟨_, rfl, h⟩

section
variable {prog : Program} {w : World} {A : Around} {E : Value → Shared → Prop} {s : Shared}
theorem enumerate_next_itemT {e it l : Addr} {i : Nat} {items : Array Value} {x old : Value} {Q : Value → Shared → Prop}
    (he : IsEnum s.heap e it i old) (hit : s.heap.IsTupleIter it l i) (hl : s.heap.IsTuple l items) (hx : items[i]? = some x) (hne : e ≠ it)
    (hQ : ∀ h', IsEnumOut h' e it ((i : Int) + 1) x s.heap.objs.size → h'.IsTupleIter it l (i + 1) →
      h'.get? s.heap.objs.size = some { cls := .type "tuple", data := .seq #[.int i s.toks, x] } → h'.objs.size = s.heap.objs.size + 1 →
      (∀ b o, b ≠ e → b ≠ it → s.heap.get? b = some o → h'.get? b = some o) → Q (.ref s.heap.objs.size) { s with heap := h', toks := s.toks + 1 }) :
    wpAny (model prog w) A (Builtin.«enumerate.__next__» ⟨[.ref e], []⟩) (fun fin s' => ∃ v, fin = .done (.ret v) ∧ Q v s') E s := by
  obtain ⟨hp, g, d, tk, os⟩ := s
  show wpAny _ _ (field (.ref e) 2 >>= _) _ _ _
  refine wpAny_bind (wpAny_field he rfl (x := .ref it) rfl ?_)
  refine wpAny_bind (RZ.nextOf_tuple_item hit hl hx fun h₁ hit₁ hs₁ => ?_)
  replace hs₁ : Heap.SameBut it hp h₁ := hs₁
  have he₁ : IsEnum h₁ e it i old := (hs₁.2 e hne).trans he
  show wpAny _ _ (field (.ref e) 3 >>= _) _ _ ⟨h₁, g, d, tk, os⟩
  refine wpAny_bind (wpAny_field he₁ rfl (x := rawInt i) rfl ?_)
  show wpAny _ _ (field (.ref e) 4 >>= _) _ _ ⟨h₁, g, d, tk, os⟩
  refine wpAny_bind (wpAny_field he₁ rfl (x := .none) rfl ?_)
  show wpAny _ _ (mkInt i >>= _) _ _ ⟨h₁, g, d, tk, os⟩
  refine wpAny_bind (wpAny_mkInt ?_)
  show wpAny _ _ (setField (.ref e) 3 (rawInt ((i : Int) + 1)) >>= _) _ _ ⟨h₁, g, d, tk + 1, os⟩
  refine wpAny_bind (wpAny_setField_rec he₁ (by simp) fun h₂ he₂ hs₂ => ?_)
  replace hs₂ : Heap.SameBut e h₁ h₂ := hs₂
  replace he₂ : IsEnum h₂ e it ((i : Int) + 1) old := he₂
  show wpAny _ _ (setField (.ref e) 4 .none >>= _) _ _ ⟨h₂, g, d, tk + 1, os⟩
  refine wpAny_bind (wpAny_setField_rec he₂ (by simp) fun h₃ he₃ hs₃ => ?_)
  replace hs₃ : Heap.SameBut e h₂ h₃ := hs₃
  replace he₃ : IsEnum h₃ e it ((i : Int) + 1) old := he₃
  show wpAny _ _ (newTuple [.int i tk, x] >>= _) _ _ ⟨h₃, g, d, tk + 1, os⟩
  refine wpAny_bind (wpAny_newTuple ?_)
  have he₄ : IsEnum (h₃.push { cls := .type "tuple", data := .seq #[.int i tk, x] }) e it ((i : Int) + 1) old := Heap.get?_push_of_some _ he₃
  generalize hh₄ : h₃.push { cls := .type "tuple", data := .seq #[.int i tk, x] } = h₄ at he₄
  have hsz : h₃.objs.size = hp.objs.size := by rw [hs₃.1, hs₂.1, hs₁.1]
  have hel : e < hp.objs.size := Heap.lt_size he
  have ht₄ : h₄.get? hp.objs.size = some { cls := .type "tuple", data := .seq #[.int i tk, x] } := by rw [← hh₄, ← hsz]; exact Heap.get?_push_size _ rfl
  have hz₄ : h₄.objs.size = hp.objs.size + 1 := by rw [← hh₄, Heap.size_push, hsz]
  have hk₄ : ∀ b o, b ≠ e → b ≠ it → hp.get? b = some o → h₄.get? b = some o := fun b o hbe hbi hb => by
    rw [← hh₄]; exact Heap.get?_push_of_some _ (hs₃.extBut b o hbe (hs₂.extBut b o hbe (hs₁.extBut b o hbi hb)))
  have hit₄ : h₄.IsTupleIter it l (i + 1) := by
    rw [← hh₄]; obtain ⟨o, ho, r⟩ := (hit₁.extBut hs₂.extBut (Ne.symm hne)).extBut hs₃.extBut (Ne.symm hne); exact ⟨o, Heap.get?_push_of_some _ ho, r⟩
  show wpAny _ _ (Builtin.SmallTypes.ownedTupleIsFree (.ref e) >>= _) _ _ ⟨h₄, g, d, tk + 1, os⟩
  rw [hsz]
  clear hh₄ he₃ hs₃ he₂ hs₂ he₁ hs₁ hit₁ hsz h₃ h₂ h₁
  refine wpAny_bind ?_
  · unfold Builtin.SmallTypes.ownedTupleIsFree
    refine wpAny_bind (wpAny_field he₄ rfl (x := .none) rfl (wpAny_pure ?_))
    simp only [if_true]
    refine wpAny_bind (wpAny_rule ?_)
    refine wpAny_bind (wpAny_field he₄ rfl (x := old) rfl ?_)
    refine wpAny_bind (wpAny_setField_rec he₄ (by simp) fun h₅ he₅ hs₅ => ?_)
    replace hs₅ : Heap.SameBut e h₄ h₅ := hs₅
    replace he₅ : IsEnum h₅ e it ((i : Int) + 1) x := he₅
    show wpAny _ _ (Builtin.SmallTypes.ownedTupleHandOut (.ref e) (.ref hp.objs.size) >>= _) _ _ ⟨h₅, g, d, tk + 1, os⟩
    refine wpAny_bind ?_
    · unfold Builtin.SmallTypes.ownedTupleHandOut
      refine wpAny_bind (wpAny_setField_rec he₅ (by simp) fun h₆ he₆ hs₆ => ?_)
      replace hs₆ : Heap.SameBut e h₅ h₆ := hs₆
      replace he₆ : IsEnumOut h₆ e it ((i : Int) + 1) x hp.objs.size := he₆
      refine wpAny_setField_rec he₆ (by simp) fun h₇ he₇ hs₇ => ?_
      replace hs₇ : Heap.SameBut e h₆ h₇ := hs₇
      replace he₇ : IsEnumOut h₇ e it ((i : Int) + 1) x hp.objs.size := he₇
      refine wpAny_bind (wpAny_letGo (wpAny_pure ⟨_, rfl, hQ h₇ he₇ ?_ ?_ ?_ ?_⟩))
      · exact ((hit₄.extBut hs₅.extBut (Ne.symm hne)).extBut hs₆.extBut (Ne.symm hne)).extBut hs₇.extBut (Ne.symm hne)
      · exact hs₇.extBut _ _ (Nat.ne_of_gt hel) (hs₆.extBut _ _ (Nat.ne_of_gt hel) (hs₅.extBut _ _ (Nat.ne_of_gt hel) ht₄))
      · rw [hs₇.1, hs₆.1, hs₅.1, hz₄]
      · exact fun b o hbe hbi hb => hs₇.extBut b o hbe (hs₆.extBut b o hbe (hs₅.extBut b o hbe (hk₄ b o hbe hbi hb)))

theorem wpAny_pyNext_enum_itemT {e it l : Addr} {i : Nat} {items : Array Value} {x old : Value} {Q : Option Value → Shared → Prop}
    (he : IsEnum s.heap e it i old) (hit : s.heap.IsTupleIter it l i) (hl : s.heap.IsTuple l items) (hx : items[i]? = some x) (hne : e ≠ it)
    (hQ : ∀ h', IsEnumOut h' e it ((i : Int) + 1) x s.heap.objs.size → h'.IsTupleIter it l (i + 1) →
      h'.get? s.heap.objs.size = some { cls := .type "tuple", data := .seq #[.int i s.toks, x] } → h'.objs.size = s.heap.objs.size + 1 →
      (∀ b o, b ≠ e → b ≠ it → s.heap.get? b = some o → h'.get? b = some o) → Q (some (.ref s.heap.objs.size)) { s with heap := h', toks := s.toks + 1 }) :
    wpAny (model prog w) A (pyNext (.ref e)) Q E s := by
  have hT : s.TypeIs (.ref e) "enumerate" := ⟨_, he, rfl⟩
  unfold pyNext
  exact wpAny_bind (wpAny_attempt (wpAny_callSpecial?_slot (name := Str.ofString "__next__") hT F.slot_enumerate_next
    (wpAny_call_entry F.slot_enumerate_next hT F.entry_enumerate_next
      (enumerate_next_itemT he hit hl hx hne fun h' a b c d k => wpAny_pure (hQ h' a b c d k)) (F.args_enumerate_next_1 _))))

theorem wpAny_pyNext_enum_endT {e it l : Addr} {i : Nat} {items : Array Value} {old : Value} {Q : Option Value → Shared → Prop} (hh : A.handled = none)
    (he : IsEnum s.heap e it i old) (hit : s.heap.IsTupleIter it l i) (hl : s.heap.IsTuple l items) (hx : items[i]? = none)
    (hQ : ∀ h', Heap.ExtBut it s.heap h' → Q none { s with heap := h' }) : wpAny (model prog w) A (pyNext (.ref e)) Q E s := by
  have hT : s.TypeIs (.ref e) "enumerate" := ⟨_, he, rfl⟩
  unfold pyNext
  refine wpAny_bind (wpAny_attempt (wpAny_callSpecial?_slot (name := Str.ofString "__next__") hT F.slot_enumerate_next
    (wpAny_call_entry F.slot_enumerate_next hT F.entry_enumerate_next ?_ (F.args_enumerate_next_1 _))))
  show wpAny _ _ (field (.ref e) 2 >>= _) _ _ _
  refine wpAny_bind (wpAny_field he rfl (x := .ref it) rfl ?_)
  refine wpAny_bind (RZ.nextOf_tuple_end hh hit hl hx fun h' x he' hx' => ?_)
  obtain ⟨o, ho, hc⟩ := hx'
  refine wpAny_bind (wpAny_isInstance (T := "StopIteration") (b := true) ⟨o, ho, hc⟩ isSubtype_stop ?_)
  exact wpAny_pure (hQ _ he')
theorem call_enumerate_tuple {l : Addr} {items : Array Value} {Q : Value → Shared → Prop} (hL : s.heap.IsTuple l items)
    (h : ∀ h', IsEnum h' (s.heap.objs.size + 1) s.heap.objs.size 0 .none → h'.IsTupleIter s.heap.objs.size l 0 → h'.objs.size = s.heap.objs.size + 2 →
      (∀ b o, s.heap.get? b = some o → h'.get? b = some o) → Q (.ref (s.heap.objs.size + 1)) { s with heap := h' }) :
    wpAny (model prog w) A (call (.type "enumerate") [.ref l]) Q E s := by
  obtain ⟨⟨c, dct, dt, sl⟩, hl, hc, n, hd⟩ := hL
  replace hc : c = .type "tuple" := hc
  replace hd : dt = .seq items n := hd
  subst hc hd
  refine callType_new F.called_enumerate (by decide) (F.typeCall_enumerate_1 _) (F.newCall_enumerate_1 _) (fun obj => F.args_object_init_2 obj _) F.entry_enumerate_new
    (meets_enumerate_newT l items n dct sl) ⟨hl, ?_⟩
  have hz : (s.heap.push { cls := .type "tuple_iterator", data := .fields #[.ref l, .int 0 0] }).objs.size = s.heap.objs.size + 1 := Heap.size_push ..
  show _ ∧ _
  rw [hz]
  have he : IsEnum ((s.heap.push { cls := .type "tuple_iterator", data := .fields #[.ref l, .int 0 0] }).push
      { cls := .type "enumerate", data := .fields #[.none, .bool false, .ref s.heap.objs.size, rawInt 0, .none, .none] }) (s.heap.objs.size + 1) s.heap.objs.size 0 .none := by
    have := Heap.get?_push_size (s.heap.push { cls := .type "tuple_iterator", data := .fields #[.ref l, .int 0 0] })
      (o := { cls := .type "enumerate", data := .fields #[.none, .bool false, .ref s.heap.objs.size, rawInt 0, .none, .none] }) rfl
    rw [hz] at this; exact this
  refine ⟨⟨_, he, rfl⟩, h _ he ⟨_, Heap.get?_push_of_some _ (Heap.get?_push_size _ rfl), rfl, rfl⟩ (by rw [Heap.size_push, hz]) fun b o x => Heap.get?_push_of_some _ (Heap.get?_push_of_some _ x)⟩

end
end PySem
namespace L2
open PySem PySem.Spec PyProof.Rows
/-- the tuple at a as it stands at each turn, each item in a new pair -/
def IteT (K : PySem.W.Frag) (a : Addr) : It :=
  ⟨fun i H => ∃ (xs : List V) (x : V), SqT K H a xs ∧ xs[i]? = some x, fun i H v H' => ∃ T x, v = .ref T ∧ H T = none ∧ H' = upd H T (.tup [.int (i : Nat), x]) ∧ ∀ xs, SqT K H a xs → xs[i]? = some x, fun i H => ∃ xs : List V, SqT K H a xs ∧ xs.length ≤ i⟩
theorem turn_enumT {P : Program} {w : World} {K : PySem.W.Frag} {elts : List Expr} {kk : Nat} {tpos : Pos} (a e it : Addr) :
    Turn P w K (.Tuple elts kk tpos) (IteT K a) [e, it] e (fun i h => (∃ old, IsEnum h e it ((i : Nat) : Int) old) ∧ h.IsTupleIter it a i ∧ e ≠ it) where
  mem := by simp
  obj := fun i h st b hb => by
    obtain ⟨⟨old, he⟩, ⟨o, ho, hc, hd⟩, _⟩ := st
    have e' : b = e ∨ b = it := by simpa using hb
    rcases e' with z | z
    · rw [z]; exact ⟨_, he, fun v q => nomatch q⟩
    · rw [z]; exact ⟨o, ho, fun v q => by rw [hd] at q; cases q⟩
  keep := fun i h h' st k => let ⟨⟨old, he⟩, hi, hne⟩ := st; ⟨⟨old, k e (by simp) _ he⟩, hi.at fun o q => k it (by simp) o q, hne⟩
  item := by
    intro X hP hw hK hc i pins s σ H E I hf st hg
    subst hP hw hK
    obtain ⟨⟨old, he⟩, hit, hne⟩ := st
    obtain ⟨xs, x, hq, hx⟩ := hg
    obtain ⟨its, rv, p, hz⟩ := I.tuple hq
    obtain ⟨u, hu, ru⟩ := rv.get hx
    have hel : e < s.heap.objs.size := Heap.lt_size he
    have hil : it < s.heap.objs.size := by obtain ⟨_, q, _⟩ := hit; exact Heap.lt_size q
    refine wpAny_pyNext_enum_itemT he hit p (x := u) (by simpa using hu) hne fun h' ho hit' hT hsz hk => ?_
    refine ⟨_, rfl, wpAny_letOwnedTupleGo_enum (s := { s with heap := h', toks := s.toks + 1 }) ho fun h'' he' sb => ?_⟩
    have hT2 : h''.get? s.heap.objs.size = some { cls := .type "tuple", data := .seq #[.int i s.toks, u] } := (sb.2 _ (Nat.ne_of_gt hel)).trans hT
    have new : ObjOk X.prog X.w (upd H s.heap.objs.size (.tup [.int (i : Nat), x])) h'' s.heap.objs.size (.tup [.int (i : Nat), x]) :=
      ⟨by show 2 ≤ sizeLine; decide, [.int i s.toks, u], .cons ⟨_, rfl⟩ (.cons ru .nil), ⟨_, hT2, rfl, _, rfl⟩⟩
    have I1 : Inv X pins σ (upd H s.heap.objs.size (.tup [.int (i : Nat), x])) { s with heap := h'', toks := s.toks + 1 } :=
      I.turnedNew (ch := [e, it]) (fun b ob hb q => (sb.2 b (fun z => hb (by simp [z]))).trans (hk b ob (fun z => hb (by simp [z])) (fun z => hb (by simp [z])) q)) hf (Nat.le_refl _) new
    refine ⟨.ref s.heap.objs.size, _, I1, rfl, ⟨_, x, rfl, I.hok.fresh (Nat.le_refl _), rfl, fun ys hy => by rw [I.tuple_inj hy hq]; exact hx⟩, ⟨⟨u, ?_⟩, hit'.at fun o q => (sb.2 it (Ne.symm hne)).trans q, hne⟩, fun b hb => ?_⟩
    · have e1 : ((i + 1 : Nat) : Int) = (i : Int) + 1 := by omega
      rw [e1]; exact he'
    · have hb' : b < s.heap.objs.size := by
        have e' : b = e ∨ b = it := by simpa using hb
        rcases e' with z | z
        · rw [z]; exact hel
        · rw [z]; exact hil
      rw [upd_ne (Nat.ne_of_lt hb')]
      exact (hf b hb).1
  done := by
    intro X hP hw hK hc i pins s σ H E I hf st hg
    subst hP hw hK
    obtain ⟨⟨old, he⟩, hit, hne⟩ := st
    obtain ⟨xs, hq, hx⟩ := hg
    obtain ⟨its, rv, p, hz⟩ := I.tuple hq
    obtain ⟨f0, f1, f2, f3, f4, f5⟩ := hf it (by simp)
    have hl := rv.length
    exact wpAny_pyNext_enum_endT (I.ok.hd hc) he hit p (by simp; omega) fun h' eb => ⟨rfl, I.turned (t' := s.toks) (fun b o hb q => eb b o hb q) f0 f1 f3 f4 f5⟩
  self := fun A i s Q E st h => let ⟨⟨_, he⟩, _⟩ := st; wpAny_pyIter_enum he h
def iEnumT (K : PySem.W.Frag) (ta : TA) : TI := fun σ H R => ta σ H fun vs H1 => ∃ a xs, vs = [.ref a] ∧ SqT K H1 a xs ∧ R (IteT K a) H1
theorem pi_enumT {X : Cx} {e : Expr} {ta : TA} {p pos tpos : Pos} {elts : List Expr} {kk : Nat} (hg : Gl X "enumerate") (hm : X.mg "enumerate" = none) (ha : PA X [e] ta) (hs : starEach [e] X.env = [(false, eval e X.env)] := by rfl) :
    PI X (.Tuple elts kk tpos) (.Call (.Name "enumerate" p) [e] [] pos) (iEnumT X.K ta) := by
  refine ⟨fun pins s σ H R I h => ?_⟩
  refine Call_ (ld_blt I hg hm boot_enumerate (PyProof.Rows.callWith_type1 (thn (ha.run pos pins s σ H _ I h) fun us s1 ⟨vs, H1, I1, r1, q1⟩ => ?_) hs rfl))
  obtain ⟨a, xs, ex, hq, q⟩ := q1
  subst ex
  cases r1 with
  | cons r rr =>
    cases rr
    cases r
    obtain ⟨its, rv, p', hz⟩ := I1.tuple hq
    refine call_enumerate_tuple p' fun h' he hit hsz hk => wpAny_pyIter_enum he ?_
    have I2 : Inv X pins σ H1 { s1 with heap := h' } := I1.kept (t' := s1.toks) hk
    refine ⟨s1.heap.objs.size + 1, [s1.heap.objs.size + 1, s1.heap.objs.size], _, _, H1, rfl, I2, turn_enumT a (s1.heap.objs.size + 1) s1.heap.objs.size, ⟨⟨.none, he⟩, hit, Nat.succ_ne_self _⟩, fun b hb => ?_, q⟩
    have e' : b = s1.heap.objs.size + 1 ∨ b = s1.heap.objs.size := by simpa using hb
    have hle : s1.heap.objs.size ≤ b := by
      rcases e' with z | z
      · rw [z]; exact Nat.le_add_right _ _
      · rw [z]; exact Nat.le_refl _
    exact I1.fpOk hle (I1.hok.fresh hle)
end L2

end
section
set_option Elab.async false
set_option linter.all false
set_option maxRecDepth 100000
set_option maxHeartbeats 2000000
/-! EwR: slices, tuple times one, enumerate of tuples, several names at once. -/
namespace L2
open PySem PySem.Spec PyProof.Rows
theorem tuple_mulOne (l : Addr) (items : Array Value) (n : Nat) (u : Tok) :
    Meets (Builtin.«tuple.__mul__» ⟨[.ref l, .int 1 u], []⟩) (fun _ R s => (∃ dd sl, s.heap.get? l = some { cls := .type "tuple", dict := dd, data := .seq items n, slots := sl }) ∧ R (.ok (.ret (.ref l))) s) :=
  .of_wp fun prog w A R s h => by
    obtain ⟨hp, g, d, tk, os⟩ := s
    obtain ⟨⟨dd, sl, hl⟩, h⟩ := h
    have f1 := AutoSeq1.idx_int
    have c0 : (decide ((1 : Int) < -(2 ^ 63)) || decide ((1 : Int) ≥ 2 ^ 63)) = false := by decide
    have c1 : (items.isEmpty || (1 : Int) == 1) = true := by rw [Bool.or_eq_true]; exact .inr rfl
    wp_walk using wpAny_loadPart' hl
    repeat (first
      | (refine wpAny_ite_false (decide_eq_false (by rw [c0]; exact Bool.false_ne_true)) ?_; wp_walk using wpAny_loadPart' hl)
      | (refine wpAny_ite_true (decide_eq_true c1) ?_; wp_walk using wpAny_loadPart' hl))
    all_goals exact ⟨_, rfl, h⟩
def rRepT1 (K : PySem.W.Frag) : R2 := fun x y H Q => ∃ l xs, x = .ref l ∧ y = .int 1 ∧ SqT K H l xs ∧ Q x H
section
variable {X : Cx}
theorem op_repT1 : OpR X (binaryOp .Mult) (rRepT1 X.K) := by
  intro pins s σ H x y v u Q I rx ry h
  obtain ⟨l, xs, rfl, rfl, hT, q⟩ := h
  cases rx
  obtain ⟨t, rfl⟩ := ry
  obtain ⟨its, r, ⟨⟨cls, dd, data, sl⟩, ho, hc, n, hd⟩, hs⟩ := I.tuple hT
  simp only at hc hd
  subst hc hd
  exact wpAny_binaryOp_repeat_ref (T := "tuple") (U := "int") (by decide) ⟨_, ho, rfl⟩ (fun s' => typeIs_int s' 1 t) noFill_tuple_mul F.fills_int_mul F.slot_int_rmul repeat_tuple F.slot_int_index.lookup
    (call_meets F.slot_int_rmul (typeIs_int s 1 t) F.entry_int_rmul (F.args_int_rmul_2 _ _) (int_rmul_tuple 1 t l its.toArray n dd sl)
      ⟨ho, rfl, ⟨_, ho, rfl⟩, call_meets F.slot_tuple_mul ⟨_, ho, rfl⟩ F.entry_tuple_mul (F.args_tuple_mul_2 _ _) (tuple_mulOne l its.toArray n t) ⟨⟨dd, sl, ho⟩, ⟨.ref l, H, I, rfl, q⟩⟩⟩)
def rRepA (K : PySem.W.Frag) : R2 := fun x y H Q => rRepT K x y H Q ∨ rRepT1 K x y H Q
theorem k_repA {K : PySem.W.Frag} (hK : X.K = K) : OpR X (binaryOp .Mult) (rRepA K) := hK ▸ op_repT.or op_repT1
/-- x[a:b], a list, a tuple, a text -/
def rSlAll (K : PySem.W.Frag) : V → Option Int → Option Int → Hp → VK → Prop := fun x lo hi H Q => rSlL K x lo hi H Q ∨ (fun x lo hi H Q => rSlA K x lo hi H Q ∨ rSlS x lo hi H Q) x lo hi H Q
theorem k_sl {K : PySem.W.Frag} (hK : X.K = K) : SlR X (rSlAll K) := hK ▸ sl_list.or (sl_tupA.or sl_str)
theorem k_ienumT {K : PySem.W.Frag} (hK : X.K = K) {e : Expr} {t : TA} {p pos tpos : Pos} {elts : List Expr} {kk : Nat} (hm : X.mg "enumerate" = none) (ha : PA X [e] t) (hg : Gl X "enumerate" := by rfl) (hs : starEach [e] X.env = [(false, eval e X.env)] := by rfl) :
    PI X (.Tuple elts kk tpos) (.Call (.Name "enumerate" p) [e] [] pos) (iEnumT K t) := hK ▸ pi_enumT hg hm ha hs
end
end L2
namespace Ew
open PySem PySem.Spec PyProof.Rows L2
def cutD {α : Type} (xs : List α) (lo hi : Option Int) : List α := (xs.drop (HT.sIx xs.length 0 lo)).take (HT.sIx xs.length xs.length hi - HT.sIx xs.length 0 lo)
section
variable {W : Wd} {Γ Γ' : Gam} {K : PySem.W.Frag} {T U A C P : Typ} {Ts Us : List Typ} {ds es : List PyData} {d : PyData} {ta : TA} {te tb : TE} {i j : Int} {N : Sx → Hp → Prop} {R : V → Hp → Prop} {Bk Ct : Sx → Hp → Prop} {tl th : TO} {lo hi : Option Int} {n m k : Nat}
def TyO (W : Wd) (Γ : Gam) (t : TO) (o : Option Int) : Prop := ∀ σ H, Cxt W H → EnvW W Γ σ H → ∀ Q : Option Int → Hp → Prop, (∀ H1, Ex W.B H H1 → Q o H1) → t σ H Q
theorem tyo_none : TyO W Γ tNoPart none := fun σ H c g Q q => q H (Ex.refl _ _)
theorem tyo_some (h : Ty W Γ te (dt K (.int i))) : TyO W Γ (tPart te) (some i) := fun σ H c g Q q => h σ H c g _ fun v H1 e hv => by
  cases hv
  exact ⟨i, rfl, q H1 e⟩
theorem RpA.drop' {M : Addr → Prop} {H : Hp} : ∀ {vs : List V} {ds : List PyData} (n : Nat), RpA M K H vs ds → RpA M K H (vs.drop n) (ds.drop n)
  | _, _, 0, h => h
  | _, _, _ + 1, .nil => .nil
  | _, _, n + 1, .cons _ r => RpA.drop' n r
theorem RpA.take' {M : Addr → Prop} {H : Hp} : ∀ {vs : List V} {ds : List PyData} (n : Nat), RpA M K H vs ds → RpA M K H (vs.take n) (ds.take n)
  | _, _, 0, _ => .nil
  | _, _, _ + 1, .nil => .nil
  | _, _, n + 1, .cons h r => .cons h (RpA.take' n r)
theorem RpA.cut {M : Addr → Prop} {H : Hp} {vs : List V} {ds : List PyData} (h : RpA M K H vs ds) (lo hi : Option Int) : RpA M K H (cutV vs lo hi) (cutD ds lo hi) := by
  unfold cutV cutD
  rw [h.length]
  exact (h.drop' _).take' _
theorem cut_whole {α : Type} {xs : List α} (h : HT.sIx xs.length 0 lo = 0 ∧ HT.sIx xs.length xs.length hi = xs.length) : cutD xs lo hi = xs := by
  unfold cutD
  rw [h.1, h.2, List.drop_zero, Nat.sub_zero, List.take_length]
theorem ty_slL (h : Ty W Γ te (dt K (.list ds))) (hl : TyO W Γ tl lo) (hh : TyO W Γ th hi) : Ty W Γ (tSl (rSlAll K) te tl th) (dt K (.list (cutD ds lo hi))) := fun σ H c g Q q =>
  h σ H c g _ fun v H1 e1 hv => hl σ H1 (c.up e1) (g.up e1.toW) _ fun H2 e2 => hh σ H2 (c.up (e1.trans e2)) (g.up (e1.trans e2).toW) _ fun H3 e3 => by
    have hv3 := Rp.up (e2.trans e3).toW hv
    cases hv3 with
    | lst h1 h2 h3 => exact .inl ⟨_, _, rfl, SqL.of h1, fun p hp => q _ _ ((e1.trans (e2.trans e3)).trans (Ex.new hp)) (.lst upd_same (c.nm ((e1.trans (e2.trans e3)).free hp)) (RpA.up (Ex.new (B := W.B) hp).toW (h3.cut lo hi)))⟩
theorem ty_slT (h : Ty W Γ te (dt K (.tuple ds))) (hl : TyO W Γ tl lo) (hh : TyO W Γ th hi) : Ty W Γ (tSl (rSlAll K) te tl th) (dt K (.tuple (cutD ds lo hi))) := fun σ H c g Q q =>
  h σ H c g _ fun v H1 e1 hv => hl σ H1 (c.up e1) (g.up e1.toW) _ fun H2 e2 => hh σ H2 (c.up (e1.trans e2)) (g.up (e1.trans e2).toW) _ fun H3 e3 => by
    have hv3 := Rp.up (e2.trans e3).toW hv
    have e13 := e1.trans (e2.trans e3)
    cases hv3 with
    | @tup a xs _ h1 h3 =>
      refine .inr (.inl ⟨_, _, rfl, h1, fun w => q _ _ e13 ?_, fun _ p hp => q _ _ (e13.trans (Ex.new hp)) (.tup (SqT.of upd_same) (RpA.up (Ex.new (B := W.B) hp).toW (h3.cut lo hi)))⟩)
      rw [h3.length] at w
      rw [cut_whole w]
      exact .tup h1 h3
theorem ty_slS {z : Str} (hz : z.length ≤ 1000000) (h : Ty W Γ te (dt K (.str z))) (hl : TyO W Γ tl lo) (hh : TyO W Γ th hi) : Ty W Γ (tSl (rSlAll K) te tl th) (dt K (.str (cutS z lo hi))) := fun σ H c g Q q =>
  h σ H c g _ fun v H1 e1 hv => hl σ H1 (c.up e1) (g.up e1.toW) _ fun H2 e2 => hh σ H2 (c.up (e1.trans e2)) (g.up (e1.trans e2).toW) _ fun H3 e3 => by
    have hv3 := Rp.up (e2.trans e3).toW hv
    have e13 := e1.trans (e2.trans e3)
    cases hv3 with
    | str => exact .inr (.inr ⟨z, rfl, sz_le hz, q _ _ e13 (.str _)⟩)
theorem opt_ixS {z : Str} {c : Nat} (hz : z.length ≤ 1000000) (e : atI z.cps.toList i = some c) : OpT W (rIx K) (dt K (.str z)) (dt K (.int i)) (dt K (.str ⟨#[c]⟩)) := fun u v H cx hu hv Q q => by
  cases hu
  cases hv
  exact .inr (.inr ⟨z, i, c, rfl, rfl, sz_le hz, e, q _ H (Ex.refl _ _) (.str _)⟩)
/-- tuple * int -/
theorem opt_repA (h0 : 1 ≤ j) (h1 : j ≤ 1000) (hn : ds ≠ []) (hz : ds.length ≤ 1000) : OpT W (rRepA K) (dt K (.tuple ds)) (dt K (.int j)) (dt K (.tuple (List.replicate j.toNat ds).flatten)) := fun u v H c hu hv Q q => by
  by_cases e : j = 1
  · subst e
    cases hv
    cases hu with
    | @tup a xs _ h2 h3 =>
      refine .inr ⟨a, xs, rfl, rfl, h2, q _ H (Ex.refl _ _) ?_⟩
      have e2 : (List.replicate (1 : Int).toNat ds).flatten = ds := by
        show (List.replicate 1 ds).flatten = ds
        simp
      rw [e2]
      exact .tup h2 h3
  · exact .inl (opt_repT (by omega) h1 hn hz u v H c hu hv Q q)
/-! ### enumerate of a tuple -/
theorem walk_enumT {a : Addr} {xs : List V} : Walk (IteT K a) xs.length (fun H => SqT K H a xs) (YPair (fun i => some (.int (i : Nat))) (fun i => xs[i]?)) := by
  refine ⟨fun i _ hi q => ⟨xs, xs[i], q, by simp⟩, fun _ q => ⟨xs, q, Nat.le_refl _⟩, fun i H v H' _ q y => ?_⟩
  obtain ⟨T, x, h1, h2, h3, h4⟩ := y
  exact ⟨T, _, x, h1, h2, h3, rfl, h4 xs q⟩
theorem tyi_enumT (h : TyA W Γ ta [tupT K Ts]) : TyI W Γ (iEnumT K ta) ((List.range Ts.length).map fun i => tupT K [dt K (.int (i : Nat)), Ts.getD i (isV .non)]) := fun σ H c g R q => h σ H c g _ fun us H1 e hu => by
  obtain ⟨v, rfl, a, xs, rfl, h2, h3⟩ := hu.one
  refine ⟨a, xs, rfl, h2, q _ H1 e ⟨fun H => SqT K H a xs, YPair (fun i => some (.int (i : Nat))) (fun i => xs[i]?), by rw [List.length_map, List.length_range, ← h3.length]; exact walk_enumT, h2, fun M' m => ⟨fun Ha Hb f z => f.sqT z, fun i Ha x Hb T hT f z y => ?_⟩⟩⟩
  obtain ⟨Tp, x0, y0, rfl, hn, rfl, ex, ey⟩ := y
  cases ex
  obtain ⟨hl, rfl⟩ := range_map_get hT
  obtain ⟨w, h4, h5⟩ := (m.tys h3).get (List.getElem?_eq_getElem hl)
  have ey' := h4.symm.trans ey
  cases ey'
  refine ⟨Ex.new hn, Tp, _, rfl, SqT.of upd_same, .int _, ?_, True.intro⟩
  show (Ts.getD i (isV .non)).p M' W.B y0 _
  rw [List.getD_eq_getElem?_getD, List.getElem?_eq_getElem hl]
  exact Typ.up _ (f.trans ((Ex.new (B := W.B) hn).toM m.sub)) h5
/-! ### several names at once -/
theorem tys_par (h : TyA W Γ ta [A, C]) : TyS W Γ (tPar n m ta) (nE W ((Γ.set n (some A)).set m (some C))) R Bk Ct := fun σ H c g D dn _ _ _ => h σ H c g _ fun us H1 e hu => by
  obtain ⟨v, w, rfl, h1, h2⟩ := hu.two
  exact ⟨v, w, rfl, dn _ H1 e.toW ⟨c.up e, EnvL.set h2 (EnvL.set h1 (g.up e.toW))⟩⟩
theorem tys_par3 (h : TyA W Γ ta [A, C, P]) : TyS W Γ (tPar3 n m k ta) (nE W (((Γ.set n (some A)).set m (some C)).set k (some P))) R Bk Ct := fun σ H c g D dn _ _ _ => h σ H c g _ fun us H1 e hu => by
  match us, hu with
  | [u, v, w], hu => exact ⟨u, v, w, rfl, dn _ H1 e.toW ⟨c.up e, EnvL.set hu.2.2.1 (EnvL.set hu.2.1 (EnvL.set hu.1 (g.up e.toW)))⟩⟩
/-- x = e or a, b = e by a target -/
theorem tys_asg {g : TG} (h : Ty W Γ te T) (hg : TyG W Γ g T Γ') : TyS W Γ (tAsg te g) (nE W Γ') R Bk Ct := fun σ H c e D dn _ _ _ => h σ H c e _ fun v H1 e1 hv =>
  hg v σ H1 (c.up e1) (e.up e1.toW) hv _ fun σ' H' e2 g' => dn σ' H' (e1.trans e2).toW ⟨c.up (e1.trans e2), g'⟩
/-- what just is known to be there is opened -/
theorem TyS.openX {α : Type} {A : α → Typ} {ts : TS} {n : Nat} (hn : Γ[n]? = some (some (exT A))) (h : ∀ x, TyS W (Γ.set n (some (A x))) ts N R Bk Ct) : TyS W Γ ts N R Bk Ct := fun σ H c g => by
  obtain ⟨v, h1, x, h2⟩ := g.get hn
  refine h x σ H c ?_
  have z := EnvL.set (T := A x) (i := n) h2 g
  have e : σ.set n (some v) = σ := by
    apply List.ext_getElem?
    intro i
    by_cases hi : n = i
    · subst hi
      rw [List.getElem?_set_self (List.getElem?_eq_some_iff.mp h1).1, h1]
    · rw [List.getElem?_set_ne hi]
  rw [e] at z
  exact z
theorem TyS.openG {φ : Prop} {ts : TS} {n : Nat} (hn : Γ[n]? = some (some (gd φ A))) (h : φ → TyS W (Γ.set n (some A)) ts N R Bk Ct) : TyS W Γ ts N R Bk Ct := fun σ H c g => by
  obtain ⟨v, h1, f, h2⟩ := g.get hn
  refine h f σ H c ?_
  have z := EnvL.set (T := A) (i := n) h2 g
  have e : σ.set n (some v) = σ := by
    apply List.ext_getElem?
    intro i
    by_cases hi : n = i
    · subst hi
      rw [List.getElem?_set_self (List.getElem?_eq_some_iff.mp h1).1, h1]
    · rw [List.getElem?_set_ne hi]
  rw [e] at z
  exact z
end
end Ew

end
section
set_option Elab.async false
set_option linter.all false
set_option maxRecDepth 100000
set_option maxHeartbeats 2000000
/-! EwP: dicts of one entry. -/
namespace Ew
open PySem PySem.Spec PyProof.Rows L2
theorem hu1 {a : Nat} (h : a + 64 < cLine) : a + 1 < cLine := by omega
def rLenA (K : PySem.W.Frag) : List V → Hp → VK → Prop := fun xs H Q => rLen K xs H Q ∨ ∃ a kvs, xs = [V.ref a] ∧ H a = some (.dK kvs) ∧ Q (.int (kvs.length : Nat)) H
section
variable {X : Cx} {e : Expr} {es : List Expr} {t : TA} {p pos : Pos}
theorem k_lenA {K : PySem.W.Frag} (hK : X.K = K) (m : X.mg "len" = none) (ha : PA X (e :: es) t) (hg : Gl X "len" := by rfl) (he : starEach (e :: es) X.env = (false, eval e X.env) :: starEach es X.env := by rfl) (hpl : (backTo pos (starEach es X.env)).any (·.1) = false := by rfl) :
    PE X (.Call (.Name "len" p) (e :: es) [] pos) (tCB (rLenA K) t) := hK ▸ pe_callB (CallR.or call_len call_lenD) hg m PySem.boot_len ha (by decide) (by decide) he hpl
end
section
variable {W : Wd} {Γ Γ' : Gam} {K : PySem.W.Frag} {As : List Typ} {P : Typ} {te tb : TE} {tt : TT} {i : Int} {x : Str} {kvs : List (PyData × PyData)}
theorem cbt_lenA (h : CbT W (rLen K) As P) : CbT W (rLenA K) As P := fun us H c hu Q q => .inl (h us H c hu Q q)
theorem RpK.length {M : Addr → Prop} {H : Hp} : ∀ {vs : List (Key × V)} {ds : List (PyData × PyData)}, RpK M K H vs ds → vs.length = ds.length
  | _, _, .nil => rfl
  | _, _, .cons _ r => by rw [List.length_cons, List.length_cons, RpK.length r]
theorem cbt_lenDict : CbT W (rLenA K) [dt K (.dict kvs)] (dt K (.int (kvs.length : Nat))) := fun us H c hu Q q => by
  obtain ⟨v, rfl, h⟩ := hu.one
  cases h with
  | dic h1 h2 => exact .inr ⟨_, _, rfl, h1, q _ H (Ex.refl _ _) (by rw [RpK.length h2]; exact .int _)⟩
/-- {x: i} -/
theorem ty_disp1 {tk tv : TE} (hk : Ty W Γ tk (dt K (.str x))) (hv : Ty W Γ tv (dt K (.int i))) : Ty W Γ (tDisp [(tk, tv)]) (dt K (.dict [(.str x, .int i)])) := fun σ H c g Q q => fun p hp => by
  have e0 : Ex W.B H (upd H p (.dK [])) := Ex.new hp
  refine hk σ _ (c.up e0) (g.up e0.toW) _ fun u H1 e1 h1 => hv σ H1 (c.up (e0.trans e1)) (g.up (e0.trans e1).toW) _ fun v H2 e2 h2 => ?_
  cases h1
  cases h2
  have hp2 : H2 p = some (.dK []) := e2.keepT (e1.keepT upd_same fun _ z => nomatch z) fun _ z => nomatch z
  refine ⟨hp2, [(.inr x, .int i)], rfl, (by show 1 ≤ 15; decide), q _ _ ((e0.trans (e1.trans e2)).mut hp) (.dic upd_same (.cons (.int i) .nil))⟩
end
end Ew

end
section
set_option Elab.async false
set_option linter.all false
set_option maxRecDepth 100000
set_option maxHeartbeats 1000000
/-! EwW: while by types; a list of one's own that grows. -/
namespace Ew
open PySem PySem.Spec PyProof.Rows L2
section
variable {W : Wd} {Γ Γ' : Gam} {K : PySem.W.Frag} {T : Typ} {Ts : List Typ} {te : TE} {tt : TT} {tb tw : TS} {i : Nat} {N : Sx → Hp → Prop} {R : V → Hp → Prop} {Bk Ct : Sx → Hp → Prop}
/-- while: before a turn the slots are Γi x, for some x with I; m falls -/
theorem tys_while {α : Type} (I : α → Prop) (Γi : α → Gam) (m : α → Nat) (x0 : α) (i0 : I x0) (h0 : ∀ σ H, nE W Γ σ H → nE W (Γi x0) σ H)
    (hs : ∀ x, I x → ∃ φ : Bool → Prop, Tt W (Γi x) tt φ ∧ (φ true → TyS W (Γi x) tb (fun σ H => ∃ y, I y ∧ m y < m x ∧ nE W (Γi y) σ H) R N (fun σ H => ∃ y, I y ∧ m y < m x ∧ nE W (Γi y) σ H)) ∧ (φ false → ∀ σ H, nE W (Γi x) σ H → N σ H)) :
    TyS W Γ (tWhile tt tb) N R Bk Ct := fun σ H c g D dn dr db dc => by
  refine ⟨fun n σ1 H1 => ∃ x, I x ∧ m x = n ∧ nE W (Γi x) σ1 H1 ∧ Exm W.M W.B H H1, ⟨m x0, x0, i0, rfl, h0 σ H ⟨c, g⟩, Exm.refl _ _ _⟩, ?_⟩
  rintro n σ1 H1 ⟨x, ix, rfl, n1, e1⟩
  obtain ⟨φ, ht, hy, hn⟩ := hs x ix
  refine ht σ1 H1 n1.1 n1.2 _ fun b H2 e2 hb => ?_
  have c2 := n1.1.up e2
  have g2 := n1.2.up e2.toW
  have e12 := e1.trans e2.toW
  cases b with
  | true =>
    rw [if_pos rfl]
    refine ⟨fun σ' H' => ∃ y, I y ∧ m y < m x ∧ nE W (Γi y) σ' H' ∧ Exm W.M W.B H H', fun σ' H' ⟨y, iy, ly, ny, ey⟩ => ⟨m y, ly, y, iy, rfl, ny, ey⟩, ?_⟩
    exact hy hb σ1 H2 c2 g2 _ (fun σ' H' e3 ⟨y, iy, ly, ny⟩ => ⟨y, iy, ly, ny, e12.trans e3⟩) dr (fun σ' H' e3 n3 => dn σ' H' (e12.trans e3) n3) (fun σ' H' e3 ⟨y, iy, ly, ny⟩ => ⟨y, iy, ly, ny, e12.trans e3⟩)
  | false =>
    rw [if_neg Bool.false_ne_true]
    exact dn σ1 H2 e12 (hn hb σ1 H2 ⟨c2, g2⟩)
end
/-! ### a list of one's own -/
/-- the list at D holds values of the types Ts -/
def Wd.own (W : Wd) (D : Addr) (nb : ¬ W.B D) (Ts : List Typ) : Wd := ⟨Ew.ad W.M D, W.B, W.H0, fun H => (∃ H1, W.Ω H1 ∧ H1 D = none ∧ Ex W.B H1 H) ∧ W.H0 D = none ∧ ∃ xs, H D = some (.lst xs) ∧ TysV (Ew.ad W.M D) W.B Ts xs H, fun a h => .inl (W.sub a h),
  fun e ⟨⟨H1, z1, z2, z3⟩, h0, xs, h1, h2⟩ => ⟨⟨H1, z1, z2, z3.trans e⟩, h0, xs, e.keep h1 nb, h2.up (e.toM fun a h => .inl (W.sub a h))⟩⟩
section
variable {W : Wd} {Γ Γ' : Gam} {K : PySem.W.Frag} {T U : Typ} {Ts : List Typ} {te ta : TE} {tw : TS} {i : Nat} {N : Sx → Hp → Prop} {R : V → Hp → Prop} {Bk Ct : Sx → Hp → Prop} {D : Addr} {nb : ¬ W.B D}
/-- found = [], then the rest -/
theorem tys_own (h : TyL W Γ te []) (hb : ∀ D (nb : ¬ W.B D), ¬ W.M D → TyS (W.own D nb []) (Γ.set i (some (isV (.ref D)))) tw noN R noN noN) : TyS W Γ (tSeq (tAsg te (gName i)) tw) noN R Bk Ct := fun σ H c g E dn dr db dc =>
  h σ H c g _ fun p xs H1 e hp h1 h2 => by
    have nm : ¬ W.M p := c.nm hp
    have nb : ¬ W.B p := c.nb hp
    have c1 := c.up e
    have c2 : Cxt (W.own p nb []) H1 := ⟨c1.box, fun a z => z.elim (c1.al a) (fun w => by rw [w, h1]; intro q; cases q), c1.ex, ⟨H, c.own, hp, e⟩, c.ex.free hp, xs, h1, by
      match xs, h2 with
      | [], _ => exact True.intro⟩
    have g1 : EnvL (Ew.ad W.M p) W.B Γ σ H1 := (EnvL.weak hp g).up (e.toM fun a h => .inl (W.sub a h))
    exact hb p nb nm _ H1 c2 (EnvL.set (T := isV (.ref p)) rfl g1) E (fun _ _ _ z => z.elim) dr (fun _ _ _ z => z.elim) (fun _ _ _ z => z.elim)
/-- what a def hands back out of the wider world -/
theorem tys_retO (h : Ty (W.own D nb Ts) Γ te T) : TyS (W.own D nb Ts) Γ (tRet te) noN (rW W T) Bk Ct := tys_ret h fun v H c k => ⟨c.ex, T.drop k⟩
/-- the list is done: from here on it is a list as any other -/
theorem tys_fin (hi : Γ[i]? = some (some (isV (.ref D)))) (nm : ¬ W.M D) (h : TyS W (Γ.set i (some (lstT Ts))) tw noN R noN noN) : TyS (W.own D nb Ts) Γ tw noN R Bk Ct := fun σ H c g E dn dr db dc => by
  obtain ⟨v, h1, h2⟩ := g.get hi
  have hv : v = .ref D := h2
  subst hv
  obtain ⟨⟨H1, o1, o2, o3⟩, _, xs, o4, o5⟩ := c.own
  have c1 : Cxt W H := ⟨c.box, fun a z => c.al a (.inl z), c.ex, W.kept o3 o1⟩
  have g1 : EnvL W.M W.B Γ σ H := EnvL.drop g
  have z := EnvL.set (T := lstT Ts) (i := i) (v := .ref D) ⟨D, xs, rfl, nm, o4, o5.drop⟩ g1
  have e : σ.set i (some (V.ref D)) = σ := by
    apply List.ext_getElem?
    intro j
    by_cases hj : i = j
    · subst hj
      rw [List.getElem?_set_self (List.getElem?_eq_some_iff.mp h1).1, h1]
    · rw [List.getElem?_set_ne hj]
  rw [e] at z
  exact h σ H c1 z E (fun _ _ _ z => z.elim) dr (fun _ _ _ z => z.elim) (fun _ _ _ z => z.elim)
/-- the own list's new state -/
theorem own_put {Us : List Typ} {H : Hp} {xs ys : List V} (c : Cxt (W.own D nb Ts) H) (h : H D = some (.lst xs)) (hy : TysV (Ew.ad W.M D) W.B Us ys (upd H D (.lst ys))) : Cxt (W.own D nb Us) (upd H D (.lst ys)) ∧ Exm (W.own D nb Ts).M (W.own D nb Ts).B H (upd H D (.lst ys)) := by
  have put : Exm (Ew.ad W.M D) W.B H (upd H D (.lst ys)) := Exm.put (.inr rfl) nb h
  obtain ⟨⟨H1, o1, o2, o3⟩, o0, _, _, _⟩ := c.own
  refine ⟨⟨fun a z => put.box z (c.box a z), fun a z q => ?_, c.ex.mut o0, ⟨H1, o1, o2, o3.mut o2⟩, o0, ys, upd_same, hy⟩, put⟩
  by_cases ea : a = D
  · rw [ea, upd_same] at q; cases q
  · rw [upd_ne ea] at q; exact c.al a z q
/-- found.append(e) -/
theorem tys_append (hi : Γ[i]? = some (some (isV (.ref D)))) (h : Ty (W.own D nb Ts) Γ te T) (hz : Ts.length < 1000000) : TyS (W.own D nb Ts) Γ (tDrop (tBM K "list" rAppend (tVar i) (tCons te tNil))) (nE (W.own D nb (Ts ++ [T])) Γ) R Bk Ct := fun σ H c g E dn dr db dc => by
  obtain ⟨v, h1, h2⟩ := g.get hi
  have hv : v = .ref D := h2
  subst hv
  obtain ⟨_, _, xs0, q0, _⟩ := c.own
  refine ⟨.ref D, h1, .inl ⟨rfl, _, SqL.of q0⟩, h σ H c g _ fun y H2 e hy => ?_⟩
  have c2 := c.up e
  obtain ⟨_, _, xs, q1, q2⟩ := c2.own
  have put : Exm (Ew.ad W.M D) W.B H2 (upd H2 D (.lst (xs ++ [y]))) := Exm.put (.inr rfl) nb q1
  have w := own_put (nb := nb) (Ts := Ts) (Us := Ts ++ [T]) (ys := xs ++ [y]) c2 q1 ((q2.append (show TysV (Ew.ad W.M D) W.B [T] [y] H2 from ⟨hy, True.intro⟩)).up put)
  exact ⟨D, xs, y, rfl, rfl, q1, by rw [q2.length]; exact sz_lt hz, dn σ _ (e.toW.trans w.2) ⟨w.1, (g.up e.toW).up w.2⟩⟩
end
end Ew

end
section
set_option Elab.async false
set_option linter.all false
set_option maxRecDepth 100000
set_option maxHeartbeats 2000000
/-! EwN: an own exception whose own __init__ calls the base class's own __init__ through super(), then keeps a second field, count. -/
namespace PySem
namespace WrX
open PySem.W PySem.Calls PyProof.Rows PySem.HandSPX
/-! ### the text: def __init__(self, count): super().__init__(count); self.count = count -/
def jA (p1 p2 : Pos) : Arguments := { posonlyargs := [], args := [{ arg := "self", annotation := none, pos := p1 }, { arg := "count", annotation := none, pos := p2 }], vararg := none, kwonlyargs := [], kw_defaults := [], kwarg := none, defaults := [] }
def jB (q1 q2 q3 q4 q5 q6 q7 q8 q9 q10 : Pos) : List Stmt := [.Expr (.Call (.Attribute (.Call (.Name "super" q1) [] [] q2) "__init__" q3) [.Name "count" q4] [] q5) q6, .Assign [.Attribute (.Name "self" q7) "count" q8] (.Name "count" q9) q10]
def jS : Scope := { kind := .function, names := [(PySem.Str.ofString "self", .local), (PySem.Str.ofString "count", .local), (PySem.Str.ofString "__class__", .free), (PySem.Str.ofString "super", .globalImplicit)], isGenerator := false, isCoroutine := false, more := [] }
/-- the own __init__ at fJ of the class C (a ClsTxt) over D -/
structure OwnTxt (prog : Program) (K : Frag) (qn : Str) (D fI C fJ : Addr) : Prop where
  fn : ∃ (oc : Value) (od : Option Addr) (kV doc pm : Value) (an : Option Addr) (cda cc : Addr) (ct : Value) (osl : Array (Option Value)) (p1 p2 q1 q2 q3 q4 q5 q6 q7 q8 q9 q10 : Pos) (ccl cl : Value) (cdd cld : Option Addr) (vs : Array Value) (ccs csl : Array (Option Value)) (file : Str) (tf : Tok),
    K.lookup fJ = some ⟨oc, od, .func (ksFn "__init__" qn (jA p1 p2) (jB q1 q2 q3 q4 q5 q6 q7 q8 q9 q10) jS .none kV doc pm an (.ref cda) ct cc), osl⟩ ∧ codeIn K (.ref cda) qn = true ∧
    K.lookup cda = some ⟨ccl, cdd, .fields vs, ccs⟩ ∧ vs[2]? = some (.str file tf) ∧ ((prog.main.file : Str) == file) = true ∧ K.lookup cc = some ⟨cl, cld, .cell (some (.ref C)), csl⟩ ∧ (q3.endLine == q5.line) = true
  noN : findIn K (.ref C) "count" = some none
  al : alongIn K "__init__" (.ref D :: veTail) = some (some (.ref fI))
  tI : typeIn K (.ref fI) = some (.type "function")
  fI : fnIn K fI = true
theorem mro_self {K : Frag} {C : Addr} {cd : ClassData} {l : List Value} (hcd : clsIn K C = some cd) (hm : cd.mro = .ref C :: l) : mroIn K C (.ref C) = some true := by
  unfold mroIn
  rw [hcd, Option.bind_some, hm, if_neg (show ¬ (List.isEmpty (Value.ref C :: l) = true) from Bool.false_ne_true)]
  simp
theorem drop_self (C : Addr) (l : List Value) : ((Value.ref C :: l).dropWhile (· != .ref C)).drop 1 = l := by
  rw [List.dropWhile_cons, if_neg (by simp)]
  rfl
/-- what the own __init__ leaves -/
structure OwnEnd (h h' : Heap) (x C dx t1 : Addr) (v : Value) : Prop where
  keep : ∀ b o, b ≠ x → h.get? b = some o → h'.get? b = some o
  obj : h'.get? x = some { cls := .ref C, dict := some dx, data := .fields #[.ref t1, .none, .none, .none, .bool false, .none] }
  dbig : h.objs.size ≤ dx
  dne : dx ≠ x
  ns : h'.Ns1 dx (fun y => if y = "count" then some v else if y = "given" then some v else none)
/-- a made one -/
structure OwnMade2 (h h' : Heap) (e C d : Addr) (v : Value) : Prop where
  keep : ∀ b o, h.get? b = some o → h'.get? b = some o
  new : h.objs.size ≤ e
  obj : ∃ oe vs, h'.get? e = some oe ∧ oe.cls = .ref C ∧ oe.dict = some d ∧ oe.data = .fields vs ∧ vs[1]? = some .none
  dbig : h.objs.size ≤ d
  dne : d ≠ e
  ns : h'.Ns1 d (fun y => if y = "count" then some v else if y = "given" then some v else none)
section
variable {prog : Program} {w : World} {A : Around} {E : Value → Shared → Prop} {R : Result → Shared → Prop} {s : Shared} {K : Frag} {mg mb : Str → Option Value} {C D fI fJ : Addr} {qn : Str}
theorem callWith_N {M : Model} {pos : Pos} {env : Env} {q g : Addr} {self : Value} {e : Expr} {rest : List Expr} {Q : Value → Shared → Prop} (hf : fnIn K g = true) (h : wpAny M A (spliced (backTo pos (starEach (e :: rest) env))) (fun vs s₁ => MethP K q g self s₁.heap ∧ wpAny M A (call (.ref q) vs) Q E s₁) E s)
    (he : starEach (e :: rest) env = (false, eval e env) :: starEach rest env := by rfl) (hplain : (backTo pos (starEach rest env)).any (·.1) = false := by rfl) :
    wpAny M A (callWith pos (.ref q) [] (backTo pos (starEach (e :: rest) env)) []) Q E s := by
  rw [he] at h ⊢
  exact callWith_of (by show ((false || (backTo pos (starEach rest env)).any (·.1)) || false) = false; rw [hplain]; rfl) (keeps_M hf) (evalArgs_plain h)
theorem own_init {nm : Str} (Bt : BaseTxt prog K mg D fI) (T : ClsTxt K mg nm D fJ C) (J : OwnTxt prog K qn D fI C fJ) {x t0 : Addr} {v : Value} (X : K.In s.heap) (hlim : s.heap.NoLimit) (G : s.heap.Ns mainGlobals mg) (GB : ∃ mb, s.heap.Ns builtinsNs mb ∧ ∀ x : Str, x ≠ "__name__" → mb x = bootBuiltins x)
    (hx : s.heap.get? x = some (excO C t0)) (hnx : K.lookup x = none) (hroom : A.depth + 3 < recursionLimit)
    (hq : ∀ h' tk dx t1, OwnEnd s.heap h' x C dx t1 v → R (.ok (.ret .none)) { s with heap := h', toks := tk }) :
    codeAny (model prog w) A (.call (.ref fJ) ⟨[.ref x, v], []⟩) R s := by
  obtain ⟨oc, od, kV, doc, pm, an, cda, cc, ct, osl, p1, p2, q1, q2, q3, q4, q5, q6, q7, q8, q9, q10, ccl, cl, cdd, cld, vs, ccs, csl, file, tf, ho, hcd, hcode, hvs, hfile, hcell, hline⟩ := J.fn
  obtain ⟨nm', q, N, bs, sn, sub, ab, col, dd, k0, k1, k2, k3, k5, hC⟩ := T.cls
  have hcl : clsIn K C = some { name := nm', bases := bs, mro := .ref C :: .ref D :: veTail, ns := N, qualname := q, hasDict := true, slotNames := sn, subclasses := sub, abstract := ab, collection := col, hasDel := false } := by unfold clsIn; rw [hC] <;> rfl
  obtain ⟨mb, hbn, hbm⟩ := GB
  obtain ⟨hp, g, d, t, os⟩ := s
  have hxC : x ≠ C := fun z => by rw [z, hC] at hnx; cases hnx
  refine ks_codeAny_call_defAt (fd := ksFn "__init__" qn (jA p1 p2) (jB q1 q2 q3 q4 q5 q6 q7 q8 q9 q10) jS .none kV doc pm an (.ref cda) ct cc) (body := jB q1 q2 q3 q4 q5 q6 q7 q8 q9 q10) (binds := [("self", .ref x), ("count", v)])
    (by omega) (X _ _ ho) rfl hlim (codeRec_of X hcd) rfl (.of_eq rfl) ?cell ?loc (fun h₁ hns₁ k₁ => ?_) rfl rfl rfl
  case cell =>
    intro y hy
    rcases List.mem_cons.mp hy with rfl | hy
    · exact fun z => by cases z
    rcases List.mem_cons.mp hy with rfl | hy
    · exact fun z => by cases z
    rcases List.mem_cons.mp hy with rfl | hy
    · exact fun z => by cases z
    rcases List.mem_cons.mp hy with rfl | hy
    · exact fun z => by cases z
    cases hy
  case loc =>
    intro y hy
    rcases List.mem_cons.mp hy with rfl | hy
    · rfl
    rcases List.mem_cons.mp hy with rfl | hy
    · rfl
    cases hy
  have X₁ : K.In h₁ := X.keeps k₁
  have hx₁ := k₁ _ _ hx
  have hxL : hp.objs.size ≠ x := Nat.ne_of_gt (Heap.lt_size hx)
  have hC₁ := X₁ _ _ hC
  show _root_.PySem.wpAt (model prog w) _ (.func (jB q1 q2 q3 q4 q5 q6 q7 q8 q9 q10) (ksEnv qn jS hp.objs.size fJ (.ref cda) cc)) (execs (jB q1 q2 q3 q4 q5 q6 q7 q8 q9 q10) (ksEnv qn jS hp.objs.size fJ (.ref cda) cc)) _ _ _
  refine ks_wpAt_execs_cons ?_
  refine ks_wpAt_Expr_any ?_
  refine ks_wpAt_MethodCall (pl := L2.plainOf (.Call (.Name "super" q1) [] [] q2) (ksEnv qn jS hp.objs.size fJ (.ref cda) cc)) ?_ (he_line hline)
  refine (ks_wpAt_super_base (env := ksEnv qn jS hp.objs.size fJ (.ref cda) cc) rfl rfl (by decide) rfl (X₁ _ _ ho) rfl rfl rfl (X₁ _ _ hcode) rfl hvs hfile Bt.top ?_)
  refine ks_loadName_global rfl rfl (loadGlobal_builtin (env := ksEnv qn jS hp.objs.size fJ (.ref cda) cc) (G.keeps k₁) Bt.mS (hbn.keeps k₁) ((hbm _ (by decide)).trans boot_super) ⟨rfl, ?_⟩)
  refine wpAny_loadName_free rfl rfl rfl ⟨_, X₁ _ _ hcell, rfl⟩ ?_
  refine wpAny_loadName_local (v := .ref x) rfl rfl hns₁ rfl ?_
  refine ks_wpAny_isType_cls hC₁ rfl ⟨rfl, ?_⟩
  refine ks_wpAny_call_super hC₁ rfl hx₁ rfl (fun c e => by cases e) (looks_mroIn X₁ (mro_self hcl rfl)) (fun h₂ hso k₂ => ?_)
  have X₂ : K.In h₂ := X₁.keeps k₂
  have hx₂ := k₂ _ _ hx₁
  obtain ⟨of, hof, hofc⟩ : ∃ of, h₂.get? fI = some of ∧ of.cls = .type "function" := by
    have ht' : (K.lookup fI).map (·.cls) = some (.type "function") := J.tI
    cases z : K.lookup fI with
    | none => rw [z] at ht'; cases ht'
    | some of => rw [z] at ht'; exact ⟨of, X₂ _ _ z, Option.some.inj ht'⟩
  refine ks_wpAny_getMethod_super hso (looks_opaque X₂ Bt.any) (l₀ := .ref C :: .ref D :: veTail) (fun A Q E s k q => wpAny_bind ((looks_clsIn X₂ hcl) A _ E s k (wpAny_pure q))) (drop_self _ _) X₂ J.al hof hofc hxC (by decide) ?_
  have k₃ : ∀ b o, h₂.get? b = some o → (h₂.push (methodObj (.ref fI) (.ref x))).get? b = some o := fun b o e => Heap.get?_push_of_some _ e
  have hu : (h₂.push (methodObj (.ref fI) (.ref x))).get? h₂.objs.size = some (methodObj (.ref fI) (.ref x)) := Heap.get?_push_at rfl rfl
  have hns₃ := (hns₁.keeps k₂).keeps k₃
  have X₃ : K.In (h₂.push (methodObj (.ref fI) (.ref x))) := X₂.keeps k₃
  refine callWith_N (q := h₂.objs.size) (self := .ref x) J.fI ?_
  refine spliced_more ?_
  refine ksLd (v := v) hns₃ rfl ?_
  refine spliced_none ⟨⟨hu, X₃⟩, ?_⟩
  have k03 : ∀ b o, hp.get? b = some o → (h₂.push (methodObj (.ref fI) (.ref x))).get? b = some o := fun b o e => k₃ b o (k₂ b o (k₁ b o e))
  refine wpAny_call (method_call hu ?_)
  refine we_init (s := ⟨_, g, d, _, os⟩) Bt T X₃ (hlim.keeps k03) (G.keeps k03) ⟨mb, hbn.keeps k03, hbm⟩ (k03 _ _ hx) hnx ?_ fun h₄ tk₄ dx t1 ⟨k₄, hx₄, dn, dne, hns⟩ => ?_
  · show _ < recursionLimit
    first
      | (show A.depth + 1 < recursionLimit; omega)
      | (show A.depth + 2 < recursionLimit; omega)
      | (simp only [Around.deeper]; omega)
  have k04 : ∀ b o, b ≠ x → hp.get? b = some o → h₄.get? b = some o := fun b o hb e => k₄ b o hb (k03 b o e)
  have X₄ : K.In h₄ := kept_but X hnx k04
  have hns₄ : h₄.Ns hp.objs.size (fun y => List.lookup y [(PySem.Str.ofString "self", Value.ref x), (PySem.Str.ofString "count", v)].reverse) := by
    obtain ⟨oL, es, ep, hL, r⟩ := hns₃
    exact ⟨oL, es, ep, k₄ _ _ hxL hL, r⟩
  -- self.count = count
  refine ks_wpAt_execs_cons (_root_.PySem.wpAt_of_wpAny (plainObj_wpAny_Assign_Attribute ?_))
  refine ksLd (v := v) hns₄ rfl (ksLd (v := .ref x) hns₄ rfl ?_)
  have hw : Within (fun y => if y = "given" then some v else none) ["given"] := Within.cons "given" v Within.nil
  obtain ⟨oD, esD, epD, hoD, hdD, _⟩ := hns.count hw
  refine set_plain X₄ (ox := { cls := .ref C, dict := some dx, data := .fields #[.ref t1, .none, .none, .none, .bool false, .none] }) (od := some oD) ⟨hx₄, rfl, rfl, hoD⟩ T.sa ?_
  refine PySem.OEX.osa_old X₄ hx₄ hns hw (by decide) hcl (refs_two C D) rfl J.noN (fun h₅ tk₅ k₅ hn₅ => ?_)
  have dbig : hp.objs.size ≤ dx := Nat.le_trans (by
    obtain ⟨oL, es, ep, hL, r⟩ := hns₃
    exact Nat.le_of_lt (Heap.lt_size hL)) dn
  refine _root_.PySem.wpAt_of_wpAny (wpAny_execs_nil (hq h₅ tk₅ dx t1 ⟨fun b o hb e => k₅ b o (Nat.ne_of_lt (Nat.lt_of_lt_of_le (Heap.lt_size e) dbig)) (k04 b o hb e), k₅ _ _ dne.symm hx₄, dbig, dne, hn₅⟩))
theorem own_made {nm : Str} (Bt : BaseTxt prog K mg D fI) (T : ClsTxt K mg nm D fJ C) (J : OwnTxt prog K qn D fI C fJ) {v : Value} (X : K.In s.heap) (hlim : s.heap.NoLimit) (G : s.heap.Ns mainGlobals mg) (GB : ∃ mb, s.heap.Ns builtinsNs mb ∧ ∀ x : Str, x ≠ "__name__" → mb x = bootBuiltins x) (hroom : A.depth + 4 < recursionLimit)
    (hq : ∀ h' tk e d, OwnMade2 s.heap h' e C d v → R (.ok (.ret (.ref e))) { s with heap := h', toks := tk }) :
    codeAny (model prog w) A (.call (.ref C) ⟨[v], []⟩) R s := by
  obtain ⟨nm', q, N, bs, sn, sub, ab, col, dd, k0, k1, k2, k3, k5, hC⟩ := T.cls
  obtain ⟨hp, g, dr, tk, os⟩ := s
  have k : ∀ b o, hp.get? b = some o → ((hp.push (kdv_tup [v])).push (excO C hp.objs.size)).get? b = some o := fun b o e => Heap.get?_push_of_some _ (Heap.get?_push_of_some _ e)
  have hget : ((hp.push (kdv_tup [v])).push (excO C hp.objs.size)).get? (hp.objs.size + 1) = some (excO C hp.objs.size) := by heap_get
  have hnx : K.lookup (hp.objs.size + 1) = none := by
    cases e : K.lookup (hp.objs.size + 1) with
    | none => rfl
    | some o =>
      have z : hp.get? (hp.objs.size + 1) = some o := X _ _ e
      exact absurd (Nat.lt_of_succ_lt (Heap.lt_size z)) (Nat.lt_irrefl _)
  refine call_own F.excBase_ValueError (fun X => refsVE_contains X _ (refs D)) (X _ _ hC) (looks_findIn X T.iC) (fun self => bind_fn X self T.tI) (one_size v) ?_
  obtain ⟨mb, hb1, hb2⟩ := GB
  refine own_init (s := ⟨(hp.push (kdv_tup [v])).push (excO C hp.objs.size), g, dr, tk, os⟩) Bt T J (X.keeps k) (hlim.keeps k) (G.keeps k) ⟨mb, hb1.keeps k, hb2⟩ hget hnx ?_ fun h' tk' dx t1 ⟨k', hx, dn, dne, hns⟩ => ?_
  · show A.depth + 1 + 3 < recursionLimit
    exact hroom
  · have old : ∀ b o, hp.get? b = some o → h'.get? b = some o := fun b o e => k' b o (Nat.ne_of_lt (Nat.lt_succ_of_lt (Heap.lt_size e))) (k b o e)
    have z : hp.objs.size + 1 + 1 ≤ dx := by
      first
        | (simpa only [Heap.size_push] using dn)
        | exact dn
        | (have q := dn; rw [Heap.size_push, Heap.size_push] at q; exact q)
    exact ⟨rfl, hq h' tk' (hp.objs.size + 1) dx ⟨old, Nat.le_succ _, ⟨_, _, hx, rfl, rfl, rfl, rfl⟩, Nat.le_trans (Nat.le_trans (Nat.le_succ _) (Nat.le_succ _)) z, dne, hns⟩⟩
end
end WrX
end PySem
namespace L2
open PySem PySem.Spec PyProof.Rows
theorem relO_two {v : V} {v' : Value} (r : RelV v v') (f : Str) : RelO (List.lookup f [(("count" : Str), v), (("given" : Str), v)]) (if f = "count" then some v' else if f = "given" then some v' else none) := by
  by_cases h1 : f = "count"
  · subst h1
    rw [if_pos rfl]
    have q : List.lookup ("count" : Str) [(("count" : Str), v), (("given" : Str), v)] = some v := by simp [List.lookup]
    rw [q]
    exact r
  · rw [if_neg h1]
    have qw : (f == ("count" : Str)) = false := by simpa using h1
    have q2 : List.lookup f [(("count" : Str), v), (("given" : Str), v)] = List.lookup f [(("given" : Str), v)] := by rw [List.lookup_cons, qw]
    rw [q2]
    exact relO_giv r f
section
variable {X : Cx} {D C fI fJ : Addr} {nm qn : Str}
/-- C(e), e in two fields -/
def tMkN (C : Addr) (ta : TA) : St → Hp → XK → Prop := fun σ H Q => ta σ H fun vs H1 => ∃ v, vs = [v] ∧ ∀ d, H1 d = none → Q (.ref C) (some d) (upd H1 d (.xd [(("count" : Str), v), (("given" : Str), v)]))
theorem pmk_ownN {a : Expr} {ta : TA} {p pos : Pos} {k : Nat} (hk : 4 ≤ k) (Bt : PySem.WrX.BaseTxt X.prog X.K X.mg D fI) (T : PySem.WrX.ClsTxt X.K X.mg nm D fJ C) (J : PySem.WrX.OwnTxt X.prog X.K qn D fI C fJ) (hr : Room k X.A) (ha : PA X [a] ta) (hg : Gl X nm := by rfl) (hdb : (nm == ("__debug__" : Str)) = false := by decide)
    (he : starEach (a :: []) X.env = (false, eval a X.env) :: starEach [] X.env := by rfl) (hpl : (backTo pos (starEach [] X.env)).any (·.1) = false := by rfl) :
    PMk X (.Call (.Name nm p) [a] [] pos) (tMkN C ta) := by
  intro pins s σ H Q I h
  refine wpAny_Call_Name_kw (ld_glob I hg T.gC ?_ hdb)
  refine PySem.W.callWith_K (h₀ := X.base) I.ok.mod.kin T.kC (thn (ha.run pos pins s σ H _ I h) fun us s1 hh => ?_) he hpl
  obtain ⟨vs, H1, I1, r1, v, ev, q1⟩ := hh
  subst ev
  refine ⟨I1.kIn, ?_⟩
  cases r1 with
  | cons rv rn =>
    rename_i v' us'
    cases rn
    show wpAny _ _ (call (.ref C) [v']) _ _ _
    have hlim := I1.nolimit
    obtain ⟨mb, hb1, hb2⟩ := I1.mod.blt
    have hG := I1.mod.glob.keeps I1.bk
    have hB := hb1.keeps I1.bk
    have hK := I1.kIn
    obtain ⟨hp, g, dr, tk, os⟩ := s1
    refine wpAny_call (PySem.WrX.own_made Bt T J hK hlim hG ⟨mb, hB, hb2⟩ (by have := hr.dp; omega) fun h' tk' e d M => ?_)
    show MkP X pins σ Q (.ref e) ⟨h', g, dr, tk', os⟩
    obtain ⟨oe, fv, hoe, hc, hd, hdat, h1⟩ := M.obj
    have hns := M.ns
    obtain ⟨G', g1, g2⟩ := restrict h' fun b => decide (b ≠ e)
    have gk : ∀ b, b ≠ e → G'.get? b = h'.get? b := fun b hb => g1 b (decide_eq_true hb)
    have ge : G'.get? e = none := g2 e (by simp)
    have old : ∀ b o, hp.get? b = some o → G'.get? b = some o := fun b o q => (gk b (Nat.ne_of_lt (Nat.lt_of_lt_of_le (Heap.lt_size q) M.new))).trans (M.keep b o q)
    have ob : ObjOk X.prog X.w (upd H1 d (.xd [(("count" : Str), v), (("given" : Str), v)])) G' d (.xd [(("count" : Str), v), (("given" : Str), v)]) :=
      ⟨_, hns.at (fun o q => (gk d M.dne).trans q), fun f => relO_two rv f⟩
    have J : Inv X pins σ (upd H1 d (.xd [(("count" : Str), v), (("given" : Str), v)])) ⟨G', g, dr, tk', os⟩ := I1.laid (t' := tk') old M.dbig ob
    refine ⟨e, oe, fv, ⟨G', g, dr, tk', os⟩, _, .ref C, some d, rfl, J, fun b o q => ?_, ge, hoe, ⟨hc, hd⟩, hdat, h1, ?_, rfl, I1.bare, raises_own T.exC T.tyC, q1 d (I1.hok.fresh M.dbig)⟩
    · by_cases hb : b = e
      · have q' : G'.get? b = some o := q
        rw [hb, ge] at q'; cases q'
      · exact (gk b hb).symm.trans q
    · rw [upd_ne (Ne.symm M.dne)]
      exact I1.hok.fresh M.new
/-- raise C(e) -/
def tRaiseN (C : Addr) (W : WX) (ta : TA) : TS := fun _ σ H => tMkN C ta σ H fun cls d H' => W cls d σ H'
theorem ps_raiseN {a : Expr} {ta : TA} {W : WX} {p pos pos2 : Pos} {k : Nat} (hk : 4 ≤ k) (hc : X.calm = true) (Bt : PySem.WrX.BaseTxt X.prog X.K X.mg D fI) (T : PySem.WrX.ClsTxt X.K X.mg nm D fJ C) (J : PySem.WrX.OwnTxt X.prog X.K qn D fI C fJ) (hr : Room k X.A) (tk : Takes X W) (ha : PA X [a] ta) (hg : Gl X nm := by rfl) (hdb : (nm == ("__debug__" : Str)) = false := by decide)
    (he : starEach (a :: []) X.env = (false, eval a X.env) :: starEach [] X.env := by rfl) (hpl : (backTo pos (starEach [] X.env)).any (·.1) = false := by rfl) :
    PS X (.Raise (some (.Call (.Name nm p) [a] [] pos)) none pos2) (tRaiseN C W ta) := ps_raise hc tk (pmk_ownN hk Bt T J hr ha hg hdb he hpl)
end
end L2

end
section
set_option Elab.async false
set_option linter.all false
set_option maxRecDepth 100000
set_option maxHeartbeats 1000000
/-! EwO: errors with further fields, results that are new lists, by types; a walk over a list or a tuple; worlds with one list of one's own. -/
namespace L2
open PySem PySem.Spec PyProof.Rows
def iOr (a b : TI) : TI := fun σ H R => a σ H R ∨ b σ H R
theorem PI.or {X : Cx} {tg l : Expr} {a b : TI} (h : PI X tg l a) (k : PI X tg l b) : PI X tg l (iOr a b) := ⟨fun pins s σ H R I q => q.elim (h.run pins s σ H R I) (k.run pins s σ H R I)⟩
/-- for x in l: a list, a tuple -/
def iSeq (K : PySem.W.Frag) (tl : TE) : TI := iOr (iList K tl) (iTup K tl)
theorem k_iseq {X : Cx} {K : PySem.W.Frag} (hK : X.K = K) {tg l : Expr} {tl : TE} (hl : PE X l tl) : PI X tg l (iSeq K tl) := hK ▸ (pi_list hl).or (pi_tup hl)
section
variable {X : Cx} {o e : Expr} {to : TE} {t : TA} {apos cpos : Pos}
theorem k_append {K : PySem.W.Frag} (hK : X.K = K) (ho : PE X o to) (ha : PA X [e] t) (hbase : attributeBase o "append" X.env (eval o X.env) = eval o X.env := by rfl)
    (hfew : ((backTo cpos (starEach [e] X.env)).all (fun x => !x.1) && (backToKw cpos (keywordEach [] X.env)).all (fun x => x.1.isSome) && decide ([e].length + ([] : List Keyword).length + (if ([] : List Keyword).isEmpty then 0 else 1) < 30)) = true := by rfl)
    (hline : (apos.endLine == cpos.line) = true := by rfl) (hs : starEach [e] X.env = (false, eval e X.env) :: starEach [] X.env := by rfl) (hplain : (backTo cpos (starEach [] X.env)).any (·.1) = false := by rfl) :
    PE X (.Call (.Attribute o "append" apos) [e] [] cpos) (tBM K "list" rAppend to t) := hK ▸ pe_bm PySem.F.plainAttrs_list PySem.F.slot_list_append PySem.F.type_list_append mt_append ho ha hbase hfew hline hs hplain
end
end L2
namespace Ew
open PySem PySem.Spec PyProof.Rows L2
/-! ### errors and results -/
abbrev Fl := V → List (Str × V)
def flG : Fl := fun v => [(("given" : Str), v)]
def flC : Fl := fun v => [(("count" : Str), v), (("given" : Str), v)]
/-- an error of the class c that keeps a value of the type T -/
structure Bad where
  c : Addr
  fl : Fl
  T : Typ
def HeldF (W : Wd) (fl : Fl) (T : Typ) (dd : Addr) (H : Hp) : Prop := ∃ v, H dd = some (.xd (fl v)) ∧ T.at W v H
/-- a result: M, B, the heap at the call, the value, the heap behind -/
structure Res where
  p : (Addr → Prop) → (Addr → Prop) → Hp → V → Hp → Prop
  back : ∀ {M B : Addr → Prop} {H0 H1 H : Hp} {v : V}, Ex B H0 H1 → p M B H1 v H → p M B H0 v H
def rT (T : Typ) : Res := ⟨fun M B _ v H => T.p M B v H, fun _ h => h⟩
/-- a new list -/
def rNew (Ts : List Typ) : Res := ⟨fun M B H0 v H => ∃ p xs, v = .ref p ∧ H0 p = none ∧ H p = some (.lst xs) ∧ TysV M B Ts xs H, fun e ⟨p, xs, h1, h2, h3⟩ => ⟨p, xs, h1, e.free h2, h3⟩⟩
/-- [tag, val], new; where fr says so val is a new list, too -/
def rTold (K : PySem.W.Frag) (tag : Str) (val : PyData) (fr : Prop) : Res := ⟨fun M B H0 v H => ∃ q u, v = .ref q ∧ H0 q = none ∧ H q = some (.lst [.str tag, u]) ∧ Rp M K H u val ∧ (fr → ∃ p, u = .ref p ∧ H0 p = none ∧ p ≠ q),
  fun e ⟨q, u, h1, h2, h3, h4, h5⟩ => ⟨q, u, h1, e.free h2, h3, h4, fun z => let ⟨p, k1, k2, k3⟩ := h5 z; ⟨p, k1, e.free k2, k3⟩⟩⟩
def spX {α : Type} (C : α → Prop) (A : α → List Typ) (R : α → Res) (bad : α → Option Bad) : Sp := fun vs H Q E => ∃ (M B : Addr → Prop) (x : α), (∀ a, B a → M a) ∧ (∀ a, B a → BoxAt H a) ∧ (∀ a, M a → H a ≠ none) ∧ C x ∧ TysV M B (A x) vs H ∧
  (bad x = none → ∀ v H', Ex B H H' → (R x).p M B H v H' → Q v H') ∧ (∀ b, bad x = some b → ∀ dd v H', Ex B H H' → b.T.p M B v H' → H' dd = some (.xd (b.fl v)) → E (.ref b.c) (some dd) H')
/-- .. that never raises -/
def spR {α : Type} (C : α → Prop) (A : α → List Typ) (R : α → Res) : Sp := fun vs H Q _ => ∃ (M B : Addr → Prop) (x : α), (∀ a, B a → M a) ∧ (∀ a, B a → BoxAt H a) ∧ (∀ a, M a → H a ≠ none) ∧ C x ∧ TysV M B (A x) vs H ∧
  ∀ v H', Ex B H H' → (R x).p M B H v H' → Q v H'
/-- an expression: what is known of its value behind the heap at its call -/
def TyR (W : Wd) (Γ : Gam) (te : TE) (P : Hp → V → Hp → Prop) : Prop := ∀ σ H, Cxt W H → EnvW W Γ σ H → ∀ Q : VK, (∀ v H0 H1, Ex W.B H H0 → Ex W.B H0 H1 → P H0 v H1 → Q v H1) → te σ H Q
section
variable {W : Wd} {Γ Γ' : Gam} {K : PySem.W.Frag} {tl : TA} {te ta tb : TE} {tt : TT} {T U : Typ} {α : Type} {C : α → Prop} {A : α → List Typ} {R : α → Res} {bad : α → Option Bad} {Wx : WX} {N : Sx → Hp → Prop} {Rr : V → Hp → Prop} {Bk Ct : Sx → Hp → Prop} {c : Addr} {φ : Prop} {P P' : Hp → V → Hp → Prop} {Ts : List Typ} {i : Nat}
def ErX (W : Wd) (Γ : Gam) (Wx : WX) (b : Bad) : Prop := ∀ dd σ H, nE W Γ σ H → HeldF W b.fl b.T dd H → Wx (.ref b.c) (some dd) σ H
theorem tyr_callX (x : α) (hC : C x) (h : TyA W Γ tl (A x)) (hb : ∀ b, bad x = some b → ErX W Γ Wx b) : TyR W Γ (tCallS (spX C A R bad) (WE Wx) tl) (fun H0 v H => bad x = none ∧ (R x).p W.M W.B H0 v H) := fun σ H c g Q q =>
  h σ H c g _ fun vs H1 e1 hv => ⟨W.M, W.B, x, W.sub, (c.up e1).box, (c.up e1).al, hC, hv, fun k v H2 e2 h2 => q v H1 H2 e1 e2 ⟨k, h2⟩,
    fun b k dd v H' e2 h2 h3 => hb b k dd σ H' ⟨c.up (e1.trans e2), g.up (e1.trans e2).toW⟩ ⟨v, h3, h2⟩⟩
theorem tyr_callKX {gV : List V → List V} {Us : List Typ} (x : α) (hC : C x) (h : TyA W Γ tl Us) (hg : ∀ {vs H}, TysV W.M W.B Us vs H → TysV W.M W.B (A x) (gV vs) H) (hb : ∀ b, bad x = some b → ErX W Γ Wx b) :
    TyR W Γ (tCallKS (spX C A R bad) gV (WE Wx) tl) (fun H0 v H => bad x = none ∧ (R x).p W.M W.B H0 v H) := fun σ H c g Q q =>
  h σ H c g _ fun vs H1 e1 hv => ⟨W.M, W.B, x, W.sub, (c.up e1).box, (c.up e1).al, hC, hg hv, fun k v H2 e2 h2 => q v H1 H2 e1 e2 ⟨k, h2⟩,
    fun b k dd v H' e2 h2 h3 => hb b k dd σ H' ⟨c.up (e1.trans e2), g.up (e1.trans e2).toW⟩ ⟨v, h3, h2⟩⟩
theorem tyr_callR {E : XK} (x : α) (hC : C x) (h : TyA W Γ tl (A x)) : TyR W Γ (tCall (spR C A R) [] E tl) ((R x).p W.M W.B) := fun σ H c g Q q =>
  h σ H c g _ fun vs H1 e1 hv => ⟨W.M, W.B, x, W.sub, (c.up e1).box, (c.up e1).al, hC, by rw [List.append_nil]; exact hv, fun v H2 e2 h2 => q v H1 H2 e1 e2 h2⟩
theorem TyR.sub (h : TyR W Γ te P) (k : ∀ H0 v H, P H0 v H → P' H0 v H) : TyR W Γ te P' := fun σ H c g Q q => h σ H c g Q fun v H0 H1 e0 e1 z => q v H0 H1 e0 e1 (k H0 v H1 z)
theorem TyR.ty (h : TyR W Γ te P) (k : ∀ H0 v H, Cxt W H0 → Ex W.B H0 H → P H0 v H → T.at W v H) : Ty W Γ te T := fun σ H c g Q q => h σ H c g Q fun v H0 H1 e0 e1 z => q v H1 (e0.trans e1) (k H0 v H1 (c.up e0) e1 z)
theorem TyR.tyl (h : TyR W Γ te P) (k : ∀ H0 v H, P H0 v H → (rNew Ts).p W.M W.B H0 v H) : TyL W Γ te Ts := fun σ H c g Q q => h σ H c g Q fun v H0 H1 e0 e1 z => by
  obtain ⟨p, xs, rfl, h2, h3, h4⟩ := k H0 v H1 z
  exact q p xs H1 (e0.trans e1) (e0.free h2) h3 h4
theorem Ty.tyr (h : Ty W Γ te T) : TyR W Γ te ((rT T).p W.M W.B) := fun σ H c g Q q => h σ H c g Q fun v H1 e z => q v H H1 (Ex.refl _ _) e z
theorem TyL.tyr (h : TyL W Γ te Ts) : TyR W Γ te ((rNew Ts).p W.M W.B) := fun σ H c g Q q => h σ H c g Q fun p xs H1 e h1 h2 h3 => q _ H H1 (Ex.refl _ _) e ⟨p, xs, rfl, h1, h2, h3⟩
theorem tyr_if {φ : Bool → Prop} (hc : Tt W Γ tt φ) (h1 : φ true → TyR W Γ ta P) (h2 : φ false → TyR W Γ tb P) : TyR W Γ (tIf tt ta tb) P := fun σ H c g Q q =>
  hc σ H c g _ fun b H1 e1 hb => by
    cases b with
    | true => rw [if_pos rfl]; exact h1 hb σ H1 (c.up e1) (g.up e1.toW) Q fun v H0 H2 e0 e2 h => q v H0 H2 (e1.trans e0) e2 h
    | false => rw [if_neg Bool.false_ne_true]; exact h2 hb σ H1 (c.up e1) (g.up e1.toW) Q fun v H0 H2 e0 e2 h => q v H0 H2 (e1.trans e0) e2 h
theorem tyl_if {φ : Bool → Prop} (hc : Tt W Γ tt φ) (h1 : φ true → TyL W Γ ta Ts) (h2 : φ false → TyL W Γ tb Ts) : TyL W Γ (tIf tt ta tb) Ts := (tyr_if hc (fun z => (h1 z).tyr) fun z => (h2 z).tyr).tyl fun _ _ _ z => z
/-- [tag, e] -/
theorem tyr_told {tag : Str} {val : PyData} {fr : Prop} (h : TyR W Γ te P) (k : ∀ H0 v H, P H0 v H → Rp W.M K H v val ∧ (fr → ∃ p o, v = .ref p ∧ H0 p = none ∧ H p = some o)) : TyR W Γ (tLst (tCons (tC (.str tag)) (tCons te tNil))) ((rTold K tag val fr).p W.M W.B) := fun σ H c g Q q =>
  h σ H c g _ fun v H0 H1 e0 e1 z => by
    obtain ⟨k1, k2⟩ := k H0 v H1 z
    refine ⟨by show 2 ≤ sizeLine; exact sz_le (by decide), fun p hp => q _ H0 _ e0 (e1.trans (Ex.new hp)) ⟨p, v, rfl, e1.free hp, upd_same, Rp.up (Ex.new (B := W.B) hp).toW k1, fun f => ?_⟩⟩
    obtain ⟨a, o, rfl, k3, k4⟩ := k2 f
    exact ⟨a, rfl, k3, ne_of_none k4 hp⟩
theorem Res.tdata {tag : Str} {val : PyData} {fr : Prop} {H0 H : Hp} {v : V} (c : Cxt W H0) (h : (rTold K tag val fr).p W.M W.B H0 v H) : (dt K (.list [.str tag, val])).at W v H := by
  obtain ⟨q, u, rfl, h2, h3, h4, _⟩ := h
  exact .lst h3 (c.nm h2) (.cons (.str _) (.cons h4 .nil))
/-- what a def hands back -/
def rX (W : Wd) (φ : Prop) (R : Res) : V → Hp → Prop := fun v H => φ ∧ Ex W.B W.H0 H ∧ R.p W.M W.B W.H0 v H
theorem tys_retX {R : Res} (hφ : φ) (h : TyR W Γ te (R.p W.M W.B)) : TyS W Γ (tRet te) noN (rX W φ R) Bk Ct := fun σ H c g D _ dr _ _ => h σ H c g _ fun v H0 H1 e0 e1 z => dr v H1 ⟨hφ, (c.up (e0.trans e1)).ex, R.back (c.up e0).ex z⟩
theorem tys_retXG {R : Res} (h : TyR W Γ te P) (k : ∀ H0 v H, P H0 v H → φ ∧ R.p W.M W.B H0 v H) : TyS W Γ (tRet te) noN (rX W φ R) Bk Ct := fun σ H c g D _ dr _ _ => h σ H c g _ fun v H0 H1 e0 e1 z => dr v H1 ⟨(k _ _ _ z).1, (c.up (e0.trans e1)).ex, R.back (c.up e0).ex (k _ _ _ z).2⟩
theorem tys_dropR (h : TyR W Γ te P) (k : ∀ H0 v H, P H0 v H → φ) : TyS W Γ (tDrop te) (fun σ H => φ ∧ nE W Γ σ H) Rr Bk Ct := fun σ H c g D dn _ _ _ => h σ H c g _ fun v H0 H1 e0 e1 z => dn σ H1 (e0.trans e1).toW ⟨k _ _ _ z, c.up (e0.trans e1), g.up (e0.trans e1).toW⟩
theorem tys_raiseG (h : Ty W Γ te T) (k : ErX W Γ Wx ⟨c, flG, T⟩) : TyS W Γ (tRaiseW c Wx (tCons te tNil)) noN Rr Bk Ct := fun σ H cx g D _ _ _ _ =>
  h σ H cx g _ fun v H1 e hv => ⟨v, rfl, fun d hd => k d σ _ ⟨cx.up (e.trans (Ex.new hd)), g.up (e.trans (Ex.new hd)).toW⟩ ⟨v, upd_same, T.up (Ex.new (B := W.B) hd).toW hv⟩⟩
theorem tys_raiseC (h : Ty W Γ te T) (k : ErX W Γ Wx ⟨c, flC, T⟩) : TyS W Γ (tRaiseN c Wx (tCons te tNil)) noN Rr Bk Ct := fun σ H cx g D _ _ _ _ =>
  h σ H cx g _ fun v H1 e hv => ⟨v, rfl, fun d hd => k d σ _ ⟨cx.up (e.trans (Ex.new hd)), g.up (e.trans (Ex.new hd)).toW⟩ ⟨v, upd_same, T.up (Ex.new (B := W.B) hd).toW hv⟩⟩
/-- the caught error's name -/
def erF (dd a : Addr) (fl : Fl) (T : Typ) : Typ := ⟨fun M B v H => v = .ref a ∧ ∃ u, H dd = some (.xd (fl u)) ∧ T.p M B u H, fun e ⟨h, u, h1, h2⟩ => ⟨h, u, e.keepT h1 (fun _ z => nomatch z), T.up e h2⟩, fun n ⟨h, u, h1, h2⟩ => ⟨h, u, h1, T.weak n h2⟩, fun ⟨h, u, h1, h2⟩ => ⟨h, u, h1, T.drop h2⟩⟩
theorem ty_field {a dd : Addr} {cls : Value} {d : Option Addr} {fl : Fl} {n : Str} (hn : ∀ u, (fl u).lookup n = some u) (hc : cls = .ref c) (hd : d = some dd) (h : Ty W Γ te (erF dd a fl T)) : Ty W Γ (tXf a cls d c n te) T := fun σ H cx g Q q =>
  h σ H cx g _ fun v H1 e ⟨e1, u, h1, h2⟩ => ⟨e1, hc, dd, _, u, hd, h1, hn u, q u H1 e h2⟩
theorem flG_given : ∀ u, (flG u).lookup ("given" : Str) = some u := fun u => by simp [flG, List.lookup]
theorem flC_count : ∀ u, (flC u).lookup ("count" : Str) = some u := fun u => by simp [flC, List.lookup]
theorem hdl_hitX {Wout : WX} {l : List Hdl} {D : Ends} {i : Nat} {ts : Addr → Value → Option Addr → TS} {fl : Fl} {dd : Addr} {σ : Sx} {H : Hp} {cc : Value} (hc : PySem.W.exmOne K (.ref c) cc = some true) (n : nE W Γ σ H) (hd : HeldF W fl T dd H)
    (dr : ∀ v H', Rr v H' → D.rt v H') (hs : ∀ a, TyS W (Γ.set i (some (erF dd a fl T))) (ts a (.ref c) (some dd)) noN Rr noN noN) : wManyA K Wout D ((cc, i, ts) :: l) (.ref c) (some dd) σ H :=
  ⟨true, hc, fun _ a ha => by
    obtain ⟨u, h1, h2⟩ := hd
    exact hs a _ H n.1 (EnvL.set (T := erF dd a fl T) ⟨rfl, u, h1, h2⟩ n.2) _ (fun _ _ _ z => z.elim) dr (fun _ _ _ z => z.elim) (fun _ _ _ z => z.elim), fun z => Bool.noConfusion z⟩
theorem tyi_seqT (h : Ty W Γ te (tupT K Ts)) : TyI W Γ (iSeq K te) Ts := fun σ H c g R q => .inr (tyi_tup h σ H c g R q)
theorem tyi_seqL (h : Ty W Γ te (lstT Ts)) : TyI W Γ (iSeq K te) Ts := fun σ H c g R q => .inl (tyi_lst h σ H c g R q)
end
section
variable {P : Program} {w : World} {K : PySem.W.Frag} {mg : Str → Option Value} {base : Heap}
theorem fn_tyX {x qual : Str} {st : Stmt} {f : Addr} {fd : FuncData} {N ps : List Str} {k : Nat} {α : Type} {C : α → Prop} {A : α → List Typ} {R : α → Res} {bad : α → Option Bad} (F : Fun K x qual st f fd) (S : FnScope N ps (defScope st))
    (len : ∀ x, C x → (A x).length = ps.length)
    (hbody : ∀ (cdv : Value) (Ar : Around) (outer : List Env) (s : Shared) (H : Hp) (E : XK), Room k (Ar.deeper (envOfC qual (defScope st) s.heap.objs.size f cdv)) →
      ∃ t, PSs (cxOf (L2.CX P w) P w K mg base N qual (defScope st) f cdv Ar outer s H E) (defBody st) t ∧ ∀ (W : Wd) (x : α), C x → (∀ Γ b, bad x = some b → ErX W Γ (fun cls d _ H => E cls d H) b) →
        TyS W ((A x).map some ++ List.replicate (N.length - ps.length) none) t (fun _ H' => rX W (bad x = none) (R x) .non H') (rX W (bad x = none) (R x)) noN noN) :
    FnOk P w K mg base (L2.CX P w) (k + 1) f fd ps (spX C A R bad) := by
  refine F.okX S (fun vs H Q E h => ?_) fun cdv Ar outer s H vs Q E hr h => ?_
  · obtain ⟨M, B, x, _, _, _, hC, h, _⟩ := h
    rw [h.length, len x hC]
  · obtain ⟨M, B, x, hs, hb, ha, hC, h, q, qe⟩ := h
    obtain ⟨t, ht, k⟩ := hbody cdv Ar outer s H E hr
    refine ⟨t, ht, k (Wd.base M B H hs) x hC (fun Γ b hb dd σ H' n hl => ?_) (L2.start N vs) H ⟨hb, ha, Ex.refl B H, True.intro⟩ ?_ _ (fun σ' H' _ n => q n.1 _ _ n.2.1 n.2.2) (fun v H' n => q n.1 _ _ n.2.1 n.2.2) (fun _ _ _ z => z.elim) (fun _ _ _ z => z.elim)⟩
    · obtain ⟨v, h1, h2⟩ := hl
      exact qe b hb dd v H' n.1.ex h2 h1
    · unfold L2.start
      have e : vs.length = ps.length := by rw [h.length, len x hC]
      rw [e]
      exact env_start h _
theorem fn_tyR {x qual : Str} {st : Stmt} {f : Addr} {fd : FuncData} {N ps : List Str} {k : Nat} {α : Type} {C : α → Prop} {A : α → List Typ} {R : α → Res} (F : Fun K x qual st f fd) (S : FnScope N ps (defScope st))
    (len : ∀ x, C x → (A x).length = ps.length)
    (hbody : ∀ (cdv : Value) (Ar : Around) (outer : List Env) (s : Shared) (H : Hp) (E : XK), Room k (Ar.deeper (envOfC qual (defScope st) s.heap.objs.size f cdv)) →
      ∃ t, PSs (cxOf (L2.CX P w) P w K mg base N qual (defScope st) f cdv Ar outer s H E).nox (defBody st) t ∧ ∀ (W : Wd) (x : α), C x → TyS W ((A x).map some ++ List.replicate (N.length - ps.length) none) t (fun _ H' => rX W True (R x) .non H') (rX W True (R x)) noN noN) :
    FnOk P w K mg base (L2.CX P w) (k + 1) f fd ps (spR C A R) := by
  refine okN F S (fun vs H Q E h => ?_) fun cdv Ar outer s H vs Q E hr h => ?_
  · obtain ⟨M, B, x, _, _, _, hC, h, _⟩ := h
    rw [h.length, len x hC]
  · obtain ⟨M, B, x, hs, hb, ha, hC, h, q⟩ := h
    obtain ⟨t, ht, k⟩ := hbody cdv Ar outer s H E hr
    refine ⟨t, ht, k (Wd.base M B H hs) x hC (L2.start N vs) H ⟨hb, ha, Ex.refl B H, True.intro⟩ ?_ _ (fun σ' H' _ n => q _ _ n.2.1 n.2.2) (fun v H' n => q _ _ n.2.1 n.2.2) (fun _ _ _ z => z.elim) (fun _ _ _ z => z.elim)⟩
    unfold L2.start
    have e : vs.length = ps.length := by rw [h.length, len x hC]
    rw [e]
    exact env_start h _
end
section
variable {W : Wd} {Γ : Gam} {te : TE} {g : TG} {R : V → Hp → Prop} {Bk Ct : Sx → Hp → Prop}
/-- a, b = e: just something is known of e -/
theorem tys_asgX {α : Type} {A : α → Typ} {φ : α → Prop} {Γ' : α → Gam} (h : Ty W Γ te (exT fun x => gd (φ x) (A x))) (hg : ∀ x, TyG W Γ g (A x) (Γ' x)) : TyS W Γ (tAsg te g) (fun σ H => ∃ x : { x // φ x }, nE W (Γ' x.1) σ H) R Bk Ct := fun σ H c e D dn _ _ _ => h σ H c e _ fun v H1 e1 ⟨x, hx, hv⟩ =>
  hg x v σ H1 (c.up e1) (e.up e1.toW) hv _ fun σ' H' e2 g' => dn σ' H' (e1.trans e2).toW ⟨⟨x, hx⟩, c.up (e1.trans e2), g'⟩
end
/-! ### sizes -/
def bd (n : Nat) (v : Int) : Prop := v.natAbs < 2 ^ n
section
variable {a b : Int} {n m : Nat}
theorem bd_log (h : bd n a) : a.natAbs.log2 ≤ n := by
  by_cases z : a.natAbs = 0
  · rw [z]; exact Nat.zero_le _
  · exact Nat.le_of_lt ((Nat.log2_lt z).mpr h)
theorem bd.mono (h : bd n a) (k : n ≤ m) : bd m a := Nat.lt_of_lt_of_le h (Nat.pow_le_pow_right (by decide) k)
theorem bd.mul (h : bd n a) (k : bd m b) : bd (n + m) (a * b) := by
  unfold bd at *
  rw [Int.natAbs_mul, Nat.pow_add]
  exact Nat.mul_lt_mul_of_lt_of_le h (Nat.le_of_lt k) (Nat.lt_of_le_of_lt (Nat.zero_le _) k)
theorem bd.sub (h : bd n a) (k : bd n b) : bd (n + 1) (a - b) := by
  unfold bd at *
  rw [Nat.pow_succ]; omega
theorem bd.add (h : bd n a) (k : bd n b) : bd (n + 1) (a + b) := by
  unfold bd at *
  rw [Nat.pow_succ]; omega
theorem bd.div (h : bd n a) (k : 0 < b) : bd n (a / b) := by
  unfold bd at *
  have := Int.natAbs_ediv_le_natAbs a b
  omega
theorem bd.div_ok (k : 0 < b) (h : bd n b) (hn : n ≤ 8000) : L2.CDivW a b := ⟨k, by have := bd_log h; omega⟩
theorem bd.mul_ok (h : bd n a) (k : bd m b) (hn : n + m ≤ 100000) : L2.CMulW a b := by
  have h1 := bd_log h
  have h2 := bd_log k
  unfold L2.CMulW
  omega
theorem bd.le (h : bd n a) (h0 : 0 ≤ b) (k : b ≤ a) : bd n b := by
  unfold bd at *; omega
end
/-! ### one list of one's own, further -/
section
variable {W : Wd} {Γ Γ' : Gam} {K : PySem.W.Frag} {T U : Typ} {Ts Us : List Typ} {te ta tj : TE} {ts tw : TS} {tt : TT} {i : Nat} {N N' : Sx → Hp → Prop} {R : V → Hp → Prop} {Bk Ct : Sx → Hp → Prop} {D : Addr} {nb : ¬ W.B D} {P : Hp → V → Hp → Prop} {φ : Bool → Prop}
theorem Exm.adM {M B : Addr → Prop} {H H' : Hp} (e : Exm M B H H') : Exm (Ew.ad M D) B H H' := fun a o h => (e a o h).imp id fun ⟨m, r⟩ => ⟨.inl m, r⟩
theorem own_out {H : Hp} (c : Cxt (W.own D nb Ts) H) : Cxt W H := by
  obtain ⟨⟨H1, o1, o2, o3⟩, _⟩ := c.own
  exact ⟨c.box, fun a z => c.al a (.inl z), c.ex, W.kept o3 o1⟩
/-- without the list at D -/
theorem Exm.less {M B : Addr → Prop} {H H1 H2 : Hp} (e : Ex B H H1) (f : Exm (Ew.ad M D) B H1 H2) (s : ∀ a, B a → M a) (hD : H D = none) : Exm M B H H2 := fun a o h => by
  have ne := ne_of_none h hD
  have e' : Exm M B H H1 := e.toM s
  rcases e' a o h with q | ⟨m, ⟨xs, rfl⟩, ⟨ys, q⟩, b⟩
  · rcases f a o q with r | ⟨m, x, y, b⟩
    · exact .inl r
    · exact .inr ⟨m.resolve_right ne, x, y, fun z z2 => b z (by obtain ⟨xs, z3, z4⟩ := z2; rw [h] at z3; cases z3; exact ⟨xs, q, z4⟩)⟩
  · rcases f a _ q with r | ⟨_, _, y, b'⟩
    · exact .inr ⟨m, ⟨xs, rfl⟩, ⟨ys, r⟩, fun z1 z2 => by
        obtain ⟨zs, z3, z4⟩ := b z1 z2
        rw [q] at z3; cases z3
        exact ⟨ys, r, z4⟩⟩
    · exact .inr ⟨m, ⟨xs, rfl⟩, y, fun z1 z2 => b' z1 (b z1 z2)⟩
theorem Tt.back (h : Tt W Γ' tt φ) (k : ∀ σ H, nE (W.own D nb Ts) Γ σ H → EnvW W Γ' σ H) : Tt (W.own D nb Ts) Γ tt φ := fun σ H c g Q q => h σ H (own_out c) (k σ H ⟨c, g⟩) Q q
theorem Ty.back (h : Ty W Γ' te T) (k : ∀ σ H, nE (W.own D nb Ts) Γ σ H → EnvW W Γ' σ H) (t : ∀ v H, T.p W.M W.B v H → U.p (Ew.ad W.M D) W.B v H) : Ty (W.own D nb Ts) Γ te U := fun σ H c g Q q => h σ H (own_out c) (k σ H ⟨c, g⟩) Q fun v H1 e z => q v H1 e (t v H1 z)
theorem TyS.back (h : TyS W Γ' ts N R Bk Ct) (k : ∀ σ H, nE (W.own D nb Ts) Γ σ H → EnvW W Γ' σ H) : TyS (W.own D nb Ts) Γ ts N R Bk Ct := fun σ H c g E dn dr db dc =>
  h σ H (own_out c) (k σ H ⟨c, g⟩) E (fun σ' H' e n => dn σ' H' e.adM n) dr (fun σ' H' e n => db σ' H' e.adM n) fun σ' H' e n => dc σ' H' e.adM n
theorem tys_seqB (h1 : TyS (W.own D nb Ts) Γ ts (nE W Γ') R Bk Ct) (h2 : TyS W Γ' tw N R Bk Ct) : TyS (W.own D nb Ts) Γ (tSeq ts tw) N R Bk Ct := fun σ H c g E dn dr db dc =>
  h1 σ H c g { E with nx := tw E } (fun σ' H' e n => h2 σ' H' n.1 n.2 E (fun σ2 H2 e2 => dn σ2 H2 (e.trans e2.adM)) dr (fun σ2 H2 e2 => db σ2 H2 (e.trans e2.adM)) fun σ2 H2 e2 => dc σ2 H2 (e.trans e2.adM)) dr db dc
/-- x = e, with it comes a new list at D -/
theorem tys_ownR {T : Addr → Typ} (h : TyR W Γ te P) (k : ∀ H0 v H, Cxt W H0 → Ex W.B H0 H → P H0 v H → ∃ p xs, H0 p = none ∧ H p = some (.lst xs) ∧ TysV (Ew.ad W.M p) W.B Ts xs H ∧ (T p).p (Ew.ad W.M p) W.B v H)
    (hb : ∀ D (nb : ¬ W.B D), ¬ W.M D → TyS (W.own D nb Ts) (Γ.set i (some (T D))) tw N R noN noN) : TyS W Γ (tSeq (tAsg te (gName i)) tw) N R Bk Ct := fun σ H c g E dn dr db dc =>
  h σ H c g _ fun v H0 H1 e0 e1 z => by
    obtain ⟨p, xs, h0, h1, h2, h3⟩ := k H0 v H1 (c.up e0) e1 z
    have hp : H p = none := e0.free h0
    have e := e0.trans e1
    have nm : ¬ W.M p := c.nm hp
    have nb : ¬ W.B p := c.nb hp
    have c1 := c.up e
    have c2 : Cxt (W.own p nb Ts) H1 := ⟨c1.box, fun a z => z.elim (c1.al a) (fun w => by rw [w, h1]; intro q; cases q), c1.ex, ⟨H, c.own, hp, e⟩, c.ex.free hp, xs, h1, h2⟩
    have g1 : EnvL (Ew.ad W.M p) W.B Γ σ H1 := (EnvL.weak hp g).up (e.toM fun a h => .inl (W.sub a h))
    exact hb p nb nm _ H1 c2 (EnvL.set (T := T p) h3 g1) E (fun σ' H' e' n => dn σ' H' (Exm.less e e' W.sub hp) n) dr (fun _ _ _ z => z.elim) (fun _ _ _ z => z.elim)
/-- e.append(u), e the own list -/
theorem tys_appendE (he : Ty (W.own D nb Ts) Γ ta (isV (.ref D))) (h : Ty (W.own D nb Ts) Γ te T) (hz : Ts.length < 1000000) : TyS (W.own D nb Ts) Γ (tDrop (tBM K "list" rAppend ta (tCons te tNil))) (nE (W.own D nb (Ts ++ [T])) Γ) R Bk Ct := fun σ H c g E dn dr db dc =>
  he σ H c g _ fun v H1 e1 hv => by
  have hv : v = .ref D := hv
  subst hv
  have c1 := c.up e1
  obtain ⟨_, _, xs0, q0, _⟩ := c1.own
  refine ⟨.inl ⟨rfl, _, SqL.of q0⟩, h σ H1 c1 (g.up e1.toW) _ fun y H2 e hy => ?_⟩
  have c2 := c1.up e
  have e12 := e1.trans e
  obtain ⟨_, _, xs, q1, q2⟩ := c2.own
  have put : Exm (Ew.ad W.M D) W.B H2 (upd H2 D (.lst (xs ++ [y]))) := Exm.put (.inr rfl) nb q1
  have w := own_put (nb := nb) (Ts := Ts) (Us := Ts ++ [T]) (ys := xs ++ [y]) c2 q1 ((q2.append (show TysV (Ew.ad W.M D) W.B [T] [y] H2 from ⟨hy, True.intro⟩)).up put)
  exact ⟨D, xs, y, rfl, rfl, q1, by rw [q2.length]; exact sz_lt hz, dn σ _ (e12.toW.trans w.2) ⟨w.1, (g.up e12.toW).up w.2⟩⟩
theorem TysV.setT {M B : Addr → Prop} {H : Hp} {y : V} (hy : T.p M B y H) : ∀ {Ts : List Typ} {xs : List V} (k : Nat), TysV M B Ts xs H → TysV M B (Ts.set k T) (xs.set k y) H
  | [], [], _, h => h
  | _ :: _, _ :: _, 0, h => ⟨hy, h.2⟩
  | _ :: _, _ :: _, k + 1, h => ⟨h.1, TysV.setT hy k h.2⟩
  | [], _ :: _, _, h => h.elim
  | _ :: _, [], _, h => h.elim
/-- found[k] = e, found the own list -/
theorem tys_put {k : Nat} (hi : Γ[i]? = some (some (isV (.ref D)))) (h : Ty (W.own D nb Ts) Γ te T) (hj : Ty (W.own D nb Ts) Γ tj (dt K (.int (k : Nat)))) (hk : k < Ts.length) : TyS (W.own D nb Ts) Γ (tAsg te (gSub (tVar i) tj rSetL)) (nE (W.own D nb (Ts.set k T)) Γ) R Bk Ct := fun σ H c g E dn dr db dc =>
  h σ H c g _ fun y H1 e1 hy => by
  have c1 := c.up e1
  have g1 := g.up e1.toW
  obtain ⟨v, h1, h2⟩ := g1.get hi
  have hv : v = .ref D := h2
  subst hv
  refine ⟨.ref D, h1, hj σ H1 c1 g1 _ fun u H2 e2 hu => ?_⟩
  cases hu
  have c2 := c1.up e2
  have e12 := e1.trans e2
  obtain ⟨_, _, xs, q1, q2⟩ := c2.own
  have hy2 := T.up (e2.toM (M := Ew.ad W.M D) fun a h => .inl (W.sub a h)) hy
  have put : Exm (Ew.ad W.M D) W.B H2 (upd H2 D (.lst (xs.set k y))) := Exm.put (.inr rfl) nb q1
  have w := own_put (nb := nb) (Ts := Ts) (Us := Ts.set k T) (ys := xs.set k y) c2 q1 ((TysV.setT hy2 k q2).up put)
  refine ⟨D, xs, (k : Int), k, rfl, rfl, q1, ?_, dn σ _ (e12.toW.trans w.2) ⟨w.1, (g.up e12.toW).up w.2⟩⟩
  have hl : k < xs.length := by rw [q2.length]; exact hk
  unfold ixN
  simp [hl]
/-- found[k] -/
theorem ty_ixO {k : Nat} {A : Typ} (hi : Γ[i]? = some (some (isV (.ref D)))) (hj : Ty (W.own D nb Ts) Γ tj (dt K (.int (k : Nat)))) (e : Ts[k]? = some A) : Ty (W.own D nb Ts) Γ (tOp (rIx K) (tVar i) tj) A := fun σ H c g Q q => by
  obtain ⟨v, h1, h2⟩ := g.get hi
  have hv : v = .ref D := h2
  subst hv
  refine ⟨.ref D, h1, hj σ H c g _ fun u H1 e1 hu => ?_⟩
  cases hu
  obtain ⟨_, _, xs, q1, q2⟩ := (c.up e1).own
  obtain ⟨w, h3, h4⟩ := q2.get e
  exact .inl ⟨D, xs, (k : Int), w, rfl, rfl, SqL.of q1, atI_nat h3, q w H1 e1 h4⟩
/-- found.append(e), just something is known of e -/
theorem tys_appendX {α : Type} {φ : α → Prop} {A : α → Typ} (hi : Γ[i]? = some (some (isV (.ref D)))) (h : Ty (W.own D nb Ts) Γ te (exT fun x => gd (φ x) (A x))) (hz : Ts.length < 1000000) : TyS (W.own D nb Ts) Γ (tDrop (tBM K "list" rAppend (tVar i) (tCons te tNil))) (fun σ H => ∃ x : { x // φ x }, nE (W.own D nb (Ts ++ [A x.1])) Γ σ H) R Bk Ct := fun σ H c g E dn dr db dc => by
  obtain ⟨v, h1, h2⟩ := g.get hi
  have hv : v = .ref D := h2
  subst hv
  obtain ⟨_, _, xs0, q0, _⟩ := c.own
  refine ⟨.ref D, h1, .inl ⟨rfl, _, SqL.of q0⟩, h σ H c g _ fun y H2 e ⟨x, hx, hy⟩ => ?_⟩
  have c2 := c.up e
  obtain ⟨_, _, xs, q1, q2⟩ := c2.own
  have put : Exm (Ew.ad W.M D) W.B H2 (upd H2 D (.lst (xs ++ [y]))) := Exm.put (.inr rfl) nb q1
  have w := own_put (nb := nb) (Ts := Ts) (Us := Ts ++ [A x]) (ys := xs ++ [y]) c2 q1 ((q2.append (show TysV (Ew.ad W.M D) W.B [A x] [y] H2 from ⟨hy, True.intro⟩)).up put)
  exact ⟨D, xs, y, rfl, rfl, q1, by rw [q2.length]; exact sz_lt hz, dn σ _ (e.toW.trans w.2) ⟨⟨x, hx⟩, w.1, (g.up e.toW).up w.2⟩⟩
/-- found[k] = e, just something is known of e -/
theorem tys_putX {α : Type} {φ : α → Prop} {A : α → Typ} {k : Nat} (hi : Γ[i]? = some (some (isV (.ref D)))) (h : Ty (W.own D nb Ts) Γ te (exT fun x => gd (φ x) (A x))) (hj : Ty (W.own D nb Ts) Γ tj (dt K (.int (k : Nat)))) (hk : k < Ts.length) : TyS (W.own D nb Ts) Γ (tAsg te (gSub (tVar i) tj rSetL)) (fun σ H => ∃ x : { x // φ x }, nE (W.own D nb (Ts.set k (A x.1))) Γ σ H) R Bk Ct := fun σ H c g E dn dr db dc =>
  h σ H c g _ fun y H1 e1 ⟨x, hx, hy⟩ => by
  have c1 := c.up e1
  have g1 := g.up e1.toW
  obtain ⟨v, h1, h2⟩ := g1.get hi
  have hv : v = .ref D := h2
  subst hv
  refine ⟨.ref D, h1, hj σ H1 c1 g1 _ fun u H2 e2 hu => ?_⟩
  cases hu
  have c2 := c1.up e2
  have e12 := e1.trans e2
  obtain ⟨_, _, xs, q1, q2⟩ := c2.own
  have hy2 := (A x).up (e2.toM (M := Ew.ad W.M D) fun a h => .inl (W.sub a h)) hy
  have put : Exm (Ew.ad W.M D) W.B H2 (upd H2 D (.lst (xs.set k y))) := Exm.put (.inr rfl) nb q1
  have w := own_put (nb := nb) (Ts := Ts) (Us := Ts.set k (A x)) (ys := xs.set k y) c2 q1 ((TysV.setT hy2 k q2).up put)
  refine ⟨D, xs, (k : Int), k, rfl, rfl, q1, ?_, dn σ _ (e12.toW.trans w.2) ⟨⟨x, hx⟩, w.1, (g.up e12.toW).up w.2⟩⟩
  have hl : k < xs.length := by rw [q2.length]; exact hk
  unfold ixN
  simp [hl]
end
section
variable {W : Wd} {Γ : Gam} {K : PySem.W.Frag} {te : TE} {g : TG} {tb : TS} {N : Sx → Hp → Prop} {R : V → Hp → Prop} {Bk Ct : Sx → Hp → Prop}
/-- range(n), n told -/
def iItr (n : Nat) : TI := fun _ H R => R (Itr 0 n) H
theorem tyi_itr {n : Nat} : TyI W Γ (iItr n) ((List.range n).map fun i => dt K (.int (i : Nat))) := fun σ H c g R q => by
  refine q _ H (Ex.refl _ _) ⟨fun _ => True, YFn fun i => .int (0 + i), by rw [List.length_map, List.length_range]; exact walk_range, True.intro, fun M' m => ⟨fun _ _ _ _ => True.intro, fun i Ha x Hb T hT f z y => ?_⟩⟩
  obtain ⟨rfl, y⟩ := y
  obtain ⟨hl, rfl⟩ := range_map_get hT
  subst y
  refine ⟨Ex.refl _ _, ?_⟩
  show Rp M' K Hb (V.int (0 + (i : Int))) (.int (i : Int))
  rw [Int.zero_add]
  exact .int _
/-- for .. in range(e): just something is known of e -/
theorem tys_rngX {φ : Nat → Prop} (h : Ty W Γ te (exT fun n : Nat => gd (φ n) (dt K (.int (n : Nat))))) (hz : ∀ n, φ n → n ≤ 1000000000) (hs : ∀ n, φ n → TyS W Γ (tFor (iItr n) g tb) N R Bk Ct) : TyS W Γ (tFor (iRng1 (tCons te tNil)) g tb) N R Bk Ct := fun σ H c e D dn dr db dc =>
  h σ H c e _ fun v H1 e1 ⟨n, hn, hv⟩ => by
    cases hv
    have := hz n hn
    exact ⟨(n : Int), rfl, by omega, by omega, hs n hn σ H1 (c.up e1) (e.up e1.toW) D (fun σ2 H2 e2 => dn σ2 H2 (e1.toW.trans e2)) dr (fun σ2 H2 e2 => db σ2 H2 (e1.toW.trans e2)) fun σ2 H2 e2 => dc σ2 H2 (e1.toW.trans e2)⟩
end
end Ew

end
section
set_option autoImplicit false
set_option Elab.async false
set_option linter.all false
set_option maxRecDepth 100000
set_option maxHeartbeats 1000000
/-! EwM: // by any int, math.gcd, +=, starred items, dicts with int keys. -/
namespace L2
open PySem PySem.Spec PyProof.Rows
def CDivF (_ j : Int) : Prop := j ≠ 0 ∧ j.natAbs.log2 < 9000
section
variable {X : Cx} {e : Expr} {es : List Expr} {t : TA} {p pos : Pos} {te : TE}
theorem op_fdivF : OpR X (binaryOp .FloorDiv) (rI CDivF fun i j => .int (i.fdiv j)) := opI fun _ _ _ _ _ _ _ hc q => floordiv_int hc.1 q (.inl (PyProof.noPylong_of_log2 hc.2))
theorem k_gcd (m : X.mg "gcd" = some (.builtin "math.gcd")) (ha : PA X (e :: es) t) (hg : Gl X "gcd" := by rfl) (he : starEach (e :: es) X.env = (false, eval e X.env) :: starEach es X.env := by rfl) (hpl : (backTo pos (starEach es X.env)).any (·.1) = false := by rfl) :
    PE X (.Call (.Name "gcd" p) (e :: es) [] pos) (tCB rGcd t) := pe_callBfun cr_gcd hg m ha (by decide) he hpl
def rDictP (K : PySem.W.Frag) : List V → Hp → VK → Prop := fun xs H Q => ∃ (a : Addr) (ps : List Addr) (kvs : List (Key × V)), xs = [.ref a] ∧ SqL K H a (ps.map V.ref) ∧ Paired (fun p kv => SqT K H p [kV kv.1, kv.2]) ps kvs ∧
    ∀ p, H p = none → Q (.ref p) (upd H p (.dK (mergeK [] kvs)))
theorem k_dictP {K : PySem.W.Frag} (hK : X.K = K) (m : X.mg "dict" = none) (ha : PA X (e :: es) t) (hc : X.calm = true := by rfl) (hg : Gl X "dict" := by rfl) (he : starEach (e :: es) X.env = (false, eval e X.env) :: starEach es X.env := by rfl) (hpl : (backTo pos (starEach es X.env)).any (·.1) = false := by rfl) :
    PE X (.Call (.Name "dict" p) (e :: es) [] pos) (tCB (rDictP K) t) := hK ▸ pe_callTy (call_dictP hc) hg m PyProof.Rows.boot_dict ha (by decide) (by decide) he hpl
def rSortD : List V → Hp → VK → Prop := fun xs H Q => ∃ (a : Addr) (kvs : List (Key × V)) (ks : List Int), xs = [.ref a] ∧ Rd H a (.dK kvs) ∧ kvs.map (·.1) = ks.map Sum.inl ∧ ks.length < 64 ∧
    ∀ (ys : List Int) (p : Addr), ys.Perm ks → ys.Pairwise (· ≤ ·) → H p = none → Q (.ref p) (upd H p (.lst (ys.map V.int)))
theorem k_sortD (m : X.mg "sorted" = none) (ha : PA X (e :: es) t) (hc : X.calm = true := by rfl) (hg : Gl X "sorted" := by rfl) (he : starEach (e :: es) X.env = (false, eval e X.env) :: starEach es X.env := by rfl) (hpl : (backTo pos (starEach es X.env)).any (·.1) = false := by rfl) :
    PE X (.Call (.Name "sorted" p) (e :: es) [] pos) (tCB rSortD t) := pe_callB (call_sortedDI hc) hg m PyProof.Rows.boot_sorted ha (by decide) (by decide) he hpl
theorem k_star {K : PySem.W.Frag} (hK : X.K = K) (he : PE X e te) (hr : PA X es t) (hs : starEach (.Starred e p :: es) X.env = (true, eval e X.env) :: starEach es X.env := by rfl) : PA X (.Starred e p :: es) (StX.tStar K te t) := hK ▸ StX.pa_star he hr hs
theorem k_aug (i : Nat) {x : Str} {pos' : Pos} (nd : X.N.Nodup) (he : PE X e te) (hi : X.N[i]? = some x := by rfl) (hx : Loc X.env.scope x := by first | exact Or.inl rfl | exact Or.inr rfl) (hf : X.fn x = true ∨ X.env.scope.names.lookup x = some .local := by first | exact .inl rfl | exact .inr rfl) :
    PS X (.AugAssign (.Name x pos') .Add e pos) (tAug i te (ipI fun i j => i + j)) := ps_aug nd hi hx he ip_add hf
end
end L2
namespace Ew
open PySem PySem.Spec PyProof.Rows L2
section
variable {W : Wd} {Γ : Gam} {K : PySem.W.Frag} {te tb : TE} {tt : TT} {tr : TA} {T : Typ} {Ts Us : List Typ} {g : TG} {vs : List Nat} {i : Nat} {a b : Int} {ds : List (PyData × PyData)} {d : PyData} {R : V → Hp → Prop} {Bk Ct : Sx → Hp → Prop}
theorem opt_fdiv (h : CDivF a b) : OpT W (rI CDivF fun i j => .int (i.fdiv j)) (dt K (.int a)) (dt K (.int b)) (dt K (.int (a.fdiv b))) := opt_I h fun _ _ => .int _
theorem cbt_gcd : CbT W rGcd [dt K (.int a), dt K (.int b)] (dt K (.int ((Int.gcd a b : Nat) : Int))) := fun us H c hu Q q => by
  obtain ⟨v, w, rfl, h, k⟩ := hu.two
  cases h
  cases k
  exact ⟨a, b, rfl, q _ H (Ex.refl _ _) (.int _)⟩
theorem tys_aug (h0 : Γ[i]? = some (some (dt K (.int a)))) (h : Ty W Γ te (dt K (.int b))) : TyS W Γ (tAug i te (ipI fun i j => i + j)) (nE W (Γ.set i (some (dt K (.int (a + b)))))) R Bk Ct := fun σ H c e D dn _ _ _ => by
  obtain ⟨v, h1, h2⟩ := e.get h0
  cases h2
  refine ⟨_, h1, h σ H c e _ fun u H1 e1 hu => ?_⟩
  cases hu
  exact ⟨a, b, rfl, rfl, dn _ H1 e1.toW ⟨c.up e1, EnvL.set (T := dt K (.int (a + b))) (.int _) (e.up e1.toW)⟩⟩
theorem tya_star (h : Ty W Γ te (lstT Us)) (hr : TyA W Γ tr Ts) : TyA W Γ (StX.tStar K te tr) (Us ++ Ts) := fun σ H c e Q q =>
  h σ H c e _ fun v H1 e1 ⟨p, xs, h1, h0, h2, h3⟩ => ⟨p, xs, h1, .inr (SqL.of h2), hr σ H1 (c.up e1) (e.up e1.toW) _ fun ys H2 e2 hy => q _ H2 (e1.trans e2) ((h3.up e2.toW).append hy)⟩
/-- [.. for .. in range(e)]: just something is known of e -/
theorem ty_rngX {φ : Nat → Prop} (h : Ty W Γ te (exT fun n : Nat => gd (φ n) (dt K (.int (n : Nat))))) (hz : ∀ n, φ n → n ≤ 1000000000) (hs : ∀ n, φ n → Ty W Γ (tLc (iItr n) g tt tb vs) T) : Ty W Γ (tLc (iRng1 (tCons te tNil)) g tt tb vs) T := fun σ H c e Q q =>
  h σ H c e _ fun v H1 e1 ⟨n, hn, hv⟩ => by
    cases hv
    have := hz n hn
    exact ⟨(n : Int), rfl, by omega, by omega, hs n hn σ H1 (c.up e1) (e.up e1.toW) Q fun v H2 e2 z => q v H2 (e1.trans e2) z⟩
/-! ### dicts with int keys -/
def pkD (l : List (Int × Int)) : List (PyData × PyData) := l.map fun p => (.int p.1, .int p.2)
def pkK (l : List (Int × Int)) : List (Key × V) := l.map fun p => (.inl p.1, .int p.2)
theorem rpk {M : Addr → Prop} {H : Hp} : ∀ l : List (Int × Int), RpK M K H (pkK l) (pkD l)
  | [] => .nil
  | p :: l => .cons (k := Sum.inl p.1) (.int p.2) (rpk l)
theorem rpk_is {M : Addr → Prop} {H : Hp} : ∀ {l : List (Int × Int)} {kvs : List (Key × V)}, RpK M K H kvs (pkD l) → kvs = pkK l
  | [], _, h => by cases h; rfl
  | p :: l, kvs, h => by
    generalize e : pkD (p :: l) = z at h
    cases h with
    | nil => cases e
    | @cons k v vs d ds h r =>
      injection e with e1 e2
      injection e1 with e3 e4
      subst e2
      obtain rfl := rpk_is r
      subst e4
      cases h
      cases k with
      | inl i => injection e3 with e5; subst e5; rfl
      | inr s => cases e3
theorem pairs_rp {M : Addr → Prop} {H : Hp} : ∀ {l : List (Int × Int)} {xs : List V}, RpA M K H xs (l.map fun p => .tuple [.int p.1, .int p.2]) → ∃ ps : List Addr, xs = ps.map V.ref ∧ Paired (fun p kv => SqT K H p [kV kv.1, kv.2]) ps (pkK l)
  | [], _, h => by cases h; exact ⟨[], rfl, .nil⟩
  | p :: l, _, h => by
    cases h with
    | cons h r =>
      obtain ⟨ps, rfl, k⟩ := pairs_rp r
      cases h with
      | @tup a ys _ h1 h2 =>
        cases h2 with
        | cons h3 h4 =>
          cases h3
          cases h4 with
          | cons h5 h6 =>
            cases h5
            cases h6
            exact ⟨a :: ps, rfl, .cons h1 k⟩
/-- dict([(p, c), ..]), the keys differ -/
theorem ty_dictP {l : List (Int × Int)} (hm : mergeK [] (pkK l) = pkK l) (h : Ty W Γ te (dt K (.list (l.map fun p => .tuple [.int p.1, .int p.2])))) : Ty W Γ (tCB (rDictP K) (tCons te tNil)) (dt K (.dict (pkD l))) := fun σ H c e Q q =>
  h σ H c e _ fun v H1 e1 hv => by
    cases hv with
    | @lst a xs _ h1 h0 h2 =>
      obtain ⟨ps, rfl, k⟩ := pairs_rp h2
      refine ⟨a, ps, pkK l, rfl, SqL.of h1, k, fun p hp => ?_⟩
      rw [hm]
      exact q _ _ (e1.trans (Ex.new hp)) (.dic upd_same (rpk l))
theorem pk_keys (l : List (Int × Int)) : (pkK l).map (·.1) = (l.map (·.1)).map Sum.inl := by
  unfold pkK
  rw [List.map_map, List.map_map]; rfl
/-- sorted(d), the keys in order already -/
theorem ty_sortD {l : List (Int × Int)} (hl : l.length < 64) (hs : (l.map (·.1)).Pairwise (· ≤ ·)) (h : Ty W Γ te (dt K (.dict (pkD l)))) : Ty W Γ (tCB rSortD (tCons te tNil)) (dt K (.list ((l.map (·.1)).map .int))) := fun σ H c e Q q =>
  h σ H c e _ fun v H1 e1 hv => by
    cases hv with
    | @dic a kvs _ h1 h2 =>
      obtain rfl := rpk_is h2
      refine ⟨a, pkK l, l.map (·.1), rfl, .inl h1, pk_keys l, by rw [List.length_map]; exact hl, fun ys p hp hy hn => ?_⟩
      have ey : ys = l.map (·.1) := hp.eq_of_pairwise (le := (· ≤ ·)) (fun a b _ _ h1 h2 => Int.le_antisymm h1 h2) hy hs
      subst ey
      refine q _ _ (e1.trans (Ex.new hn)) (.lst upd_same (c.nm (e1.free hn)) ?_)
      have z : ∀ ns : List Int, RpA W.M K (upd H1 p (.lst ((l.map (·.1)).map V.int))) (ns.map V.int) (ns.map .int) := fun ns => by
        induction ns with
        | nil => exact .nil
        | cons n ns ih => exact .cons (.int n) ih
      exact z _
/-- d[k] -/
theorem ty_dget {l : List (Int × Int)} {k n : Int} (hk : valV (pkK l) (.inl k) = some (.int n)) (h : Ty W Γ te (dt K (.dict (pkD l)))) (hb : Ty W Γ tb (dt K (.int k))) : Ty W Γ (tDGet te tb) (dt K (.int n)) := fun σ H c e Q q =>
  h σ H c e _ fun v H1 e1 hv => hb σ H1 (c.up e1) (e.up e1.toW) _ fun u H2 e2 hu => by
    have hv2 := Rp.up e2.toW hv
    cases hu
    cases hv2 with
    | @dic a kvs _ h1 h2 =>
      obtain rfl := rpk_is h2
      exact ⟨a, .int n, rfl, .inl ⟨pkK l, .inl k, .inl h1, rfl, hk.symm⟩, q _ H2 (e1.trans e2) (.int n)⟩
end
theorem EnvL.setN {M B : Addr → Prop} {H : Hp} {x : Option V} : ∀ {Γ : Gam} {σ : Sx} (n : Nat), EnvL M B Γ σ H → EnvL M B (Γ.set n none) (σ.set n x) H
  | [], [], _, h => h
  | none :: Γ, y :: σ, 0, h => h
  | some T :: Γ, some v :: σ, 0, h => h.2
  | none :: Γ, y :: σ, n + 1, h => EnvL.setN (Γ := Γ) (σ := σ) n h
  | some T :: Γ, some v :: σ, n + 1, h => ⟨h.1, EnvL.setN (Γ := Γ) (σ := σ) n h.2⟩
  | [], _ :: _, _, h => h.elim
  | none :: _, [], _, h => h.elim
  | some _ :: _, [], _, h => h.elim
  | some _ :: _, none :: _, _, h => h.elim
def prodI (n : Int) (l : List (Int × Int)) : Int := l.foldl (fun n p => n * p.1 ^ p.2.toNat) n
/-- for p in d: for t in range(d[p]): n = n * p -/
theorem tys_dictFor {W : Wd} {Γ : Gam} {K : PySem.W.Frag} {c n p t : Nat} {l : List (Int × Int)} {n0 : Int} {R : V → Hp → Prop} {Bk Ct : Sx → Hp → Prop} (hc : Γ[c]? = some (some (dt K (.dict (pkD l))))) (hn : Γ[n]? = some (some (dt K (.int n0))))
    (hcn : c ≠ n) (hcp : c ≠ p) (hct : c ≠ t) (hnp : n ≠ p) (hnt : n ≠ t) (hpt : p ≠ t) (lp : p < Γ.length) (hv : ∀ q ∈ l, valV (pkK l) (.inl q.1) = some (.int q.2)) (hb : ∀ q ∈ l, 0 ≤ q.2 ∧ q.2 ≤ 1000 ∧ -(2 ^ 64) < q.1 ∧ q.1 < 2 ^ 64) :
    TyS W Γ (tLock (tFor (iKeys (tVar c)) (gName p) (tFor (iRng1 (tCons (tDGet (tVar c) (tVar p)) tNil)) (gName t) (tAsg (tOp rMulA (tVar n) (tVar p)) (gName n))))) (nE W (((Γ.set n (some (dt K (.int (prodI n0 l))))).set p none).set t none)) R Bk Ct := fun σ H cx g D dn _ _ _ => by
  obtain ⟨u, s1, hu⟩ := g.get hc
  obtain ⟨w, s2, hw⟩ := g.get hn
  cases hw
  cases hu with
  | @dic d kvs _ e1 e2 =>
  obtain rfl := rpk_is e2
  refine ⟨d, _, e1, trivial, fun od => ?_⟩
  have hd : upd H d (.frz od (.dK (pkK l))) d = some (.frz od (.dK (pkK l))) := upd_same
  generalize hH : upd H d (.frz od (.dK (pkK l))) = H' at hd
  refine ⟨.ref d, s1, d, od, rfl, .inl ⟨pkK l, hd, ?_⟩⟩
  have back : upd H' d (.dK (pkK l)) = H := by
    rw [← hH]
    funext x
    by_cases e : x = d
    · rw [e, upd_same, e1]
    · rw [upd_ne e, upd_ne e]
  have lenP : (pkK l).length = l.length := List.length_map _
  have lc : c < σ.length := (List.getElem?_eq_some_iff.mp s1).1
  have ln : n < σ.length := (List.getElem?_eq_some_iff.mp s2).1
  have lg : σ.length = Γ.length := g.length
  let Pv : Nat → Sx → Hp → Prop := fun i σ' H2 => H2 = H' ∧ ∃ x y, σ' = ((σ.set n (some (.int (prodI n0 (l.take i))))).set p x).set t y
  refine for_it walk_keys Pv ⟨rfl, σ[p]?.join, σ[t]?.join, ?_⟩ (fun i σ' H2 _ h => by rw [h.1]; exact hd) ?_ ?_
  · have self : ∀ (σ : Sx) (k : Nat), σ.set k σ[k]?.join = σ := fun σ k => by
      apply List.ext_getElem?
      intro j
      by_cases e : k = j
      · subst e
        by_cases z : k < σ.length
        · rw [List.getElem?_set_self z, List.getElem?_eq_getElem z]; rfl
        · rw [List.getElem?_eq_none (by rw [List.length_set]; omega), List.getElem?_eq_none (by omega)]
      · rw [List.getElem?_set_ne e]
    have a1 : σ.set n (some (.int (prodI n0 (l.take 0)))) = σ := by
      have := self σ n
      rw [s2] at this
      exact this
    rw [a1, self, self]
  · rintro i v σ' H2 H3 hi ⟨h2, x, y, rfl⟩ ⟨h3, k, v', hk, rfl⟩
    have e : H' = H3 := (h3.trans h2).symm
    subst e
    clear h3 h2
    rw [lenP] at hi
    have hq : l[i]? = some l[i] := List.getElem?_eq_getElem hi
    have mq := List.getElem_mem hi
    obtain ⟨rfl, rfl⟩ : k = Sum.inl l[i].1 ∧ v' = V.int l[i].2 := by
      unfold pkK at hk
      rw [List.getElem?_map, hq] at hk
      have := Option.some.inj hk
      exact ⟨(congrArg Prod.fst this).symm, (congrArg Prod.snd this).symm⟩
    obtain ⟨b0, b1, b2, b3⟩ := hb _ mq
    have e0 : ((((σ.set n (some (.int (prodI n0 (l.take i))))).set p x).set t y).set p (some (kV (Sum.inl l[i].1)))) = ((σ.set n (some (.int (prodI n0 (l.take i))))).set p (some (.int l[i].1))).set t y := by
      rw [List.set_comm _ _ hpt.symm, List.set_set]; rfl
    show tFor _ _ _ _ (((((σ.set n (some (.int (prodI n0 (l.take i))))).set p x).set t y).set p (some (kV (Sum.inl l[i].1))))) _
    rw [e0]
    have slot : ∀ (m : Int) (y : Option V), (((σ.set n (some (.int m))).set p (some (.int l[i].1))).set t y)[c]? = some (some (.ref d)) ∧ (((σ.set n (some (.int m))).set p (some (.int l[i].1))).set t y)[n]? = some (some (.int m)) ∧ (((σ.set n (some (.int m))).set p (some (.int l[i].1))).set t y)[p]? = some (some (.int l[i].1)) := fun m y => by
      refine ⟨?_, ?_, ?_⟩
      · rw [List.getElem?_set_ne hct.symm, List.getElem?_set_ne hcp.symm, List.getElem?_set_ne hcn.symm]; exact s1
      · rw [List.getElem?_set_ne hnt.symm, List.getElem?_set_ne hnp.symm, List.getElem?_set_self ln]
      · rw [List.getElem?_set_ne hpt.symm, List.getElem?_set_self (by rw [List.length_set, lg]; exact lp)]
    obtain ⟨c1, c2, c3⟩ := slot (prodI n0 (l.take i)) y
    refine ⟨.ref d, c1, .int l[i].1, c3, d, .int l[i].2, rfl, .inl ⟨pkK l, .inl l[i].1, .inr ⟨od, hd⟩, rfl, (hv _ mq).symm⟩, l[i].2, rfl, by omega, by omega, ?_⟩
    let Pw : Nat → Sx → Hp → Prop := fun j σ' H2 => H2 = H' ∧ ∃ y, σ' = ((σ.set n (some (.int (prodI n0 (l.take i) * l[i].1 ^ j)))).set p (some (.int l[i].1))).set t y
    refine for_it walk_range Pw ⟨rfl, y, by rw [Int.pow_zero, Int.mul_one]⟩ (fun _ _ _ _ _ => True.intro) ?_ ?_
    · rintro j v σ' H2 H3 hj ⟨hh, y, rfl⟩ yy
      obtain ⟨z1, z2⟩ := yy
      have e : H' = H3 := (z1.trans hh).symm
      subst e
      subst z2
      clear z1 hh
      have e2 : ((((σ.set n (some (.int (prodI n0 (l.take i) * l[i].1 ^ j)))).set p (some (.int l[i].1))).set t y).set t (some (.int (0 + (j : Int))))) = ((σ.set n (some (.int (prodI n0 (l.take i) * l[i].1 ^ j)))).set p (some (.int l[i].1))).set t (some (.int (0 + (j : Int)))) := by rw [List.set_set]
      show tAsg _ _ _ ((((σ.set n (some (.int (prodI n0 (l.take i) * l[i].1 ^ j)))).set p (some (.int l[i].1))).set t y).set t (some (.int (0 + (j : Int))))) _
      rw [e2]
      obtain ⟨d1, d2, d3⟩ := slot (prodI n0 (l.take i) * l[i].1 ^ j) (some (.int (0 + (j : Int))))
      refine ⟨_, d2, _, d3, .inl ⟨_, _, rfl, rfl, .inr ⟨b2, b3⟩, ?_⟩⟩
      refine ⟨rfl, some (.int (0 + (j : Int))), ?_⟩
      show (((σ.set n (some (.int (prodI n0 (l.take i) * l[i].1 ^ j)))).set p (some (.int l[i].1))).set t (some (.int (0 + (j : Int))))).set n (some (.int (prodI n0 (l.take i) * l[i].1 ^ j * l[i].1))) = _
      rw [List.set_comm _ _ hnt.symm, List.set_comm _ _ hnp.symm, List.set_set, Int.pow_succ, Int.mul_assoc]
    · rintro σ' H2 ⟨rfl, y, rfl⟩
      refine ⟨rfl, some (.int l[i].1), y, ?_⟩
      have e3 : prodI n0 (l.take (i + 1)) = prodI n0 (l.take i) * l[i].1 ^ l[i].2.toNat := by
        unfold prodI
        rw [List.take_add_one, hq]
        show List.foldl _ _ (l.take i ++ [l[i]]) = _
        rw [List.foldl_append]; rfl
      rw [e3]
  · rintro σ' H2 ⟨rfl, x, y, rfl⟩
    rw [lenP, List.take_length]
    refine ⟨hd, ?_⟩
    show D.nx _ _
    rw [back]
    exact dn _ H (Exm.refl _ _ _) ⟨cx, (((EnvL.set (T := dt K (.int (prodI n0 l))) (.int _) g)).setN p).setN t⟩
section
variable {W : Wd} {Γ : Gam} {K : PySem.W.Frag} {te t1 t2 : TE} {tt : TT} {tb tw : TS} {i n m k : Nat} {a b : Int} {N : Sx → Hp → Prop} {R : V → Hp → Prop} {Bk Ct : Sx → Hp → Prop}
/-- while, the world moves along -/
theorem tys_whileW {α : Type} (I : α → Prop) (Wi : α → Wd) (Γi : α → Gam) (mz : α → Nat) (x0 : α) (i0 : I x0) (like : ∀ x, W.Like (Wi x)) (h0 : ∀ σ H, nE W Γ σ H → nE (Wi x0) (Γi x0) σ H)
    (hs : ∀ x, I x → ∃ φ : Bool → Prop, Tt (Wi x) (Γi x) tt φ ∧ (φ true → TyS (Wi x) (Γi x) tb (fun σ H => ∃ y, I y ∧ mz y < mz x ∧ nE (Wi y) (Γi y) σ H) R N (fun σ H => ∃ y, I y ∧ mz y < mz x ∧ nE (Wi y) (Γi y) σ H)) ∧ (φ false → ∀ σ H, nE (Wi x) (Γi x) σ H → N σ H)) :
    TyS W Γ (tWhile tt tb) N R Bk Ct := fun σ H c g D dn dr db dc => by
  refine ⟨fun n σ1 H1 => ∃ x, I x ∧ mz x = n ∧ nE (Wi x) (Γi x) σ1 H1 ∧ Exm W.M W.B H H1, ⟨mz x0, x0, i0, rfl, h0 σ H ⟨c, g⟩, Exm.refl _ _ _⟩, ?_⟩
  rintro n σ1 H1 ⟨x, ix, rfl, n1, e1⟩
  obtain ⟨φ, ht, hy, hn⟩ := hs x ix
  have l := like x
  refine ht σ1 H1 n1.1 n1.2 _ fun b H2 e2 hb => ?_
  have c2 := n1.1.up e2
  have g2 := n1.2.up e2.toW
  have e12 := e1.trans (l.exm e2.toW)
  cases b with
  | true =>
    rw [if_pos rfl]
    refine ⟨fun σ' H' => ∃ y, I y ∧ mz y < mz x ∧ nE (Wi y) (Γi y) σ' H' ∧ Exm W.M W.B H H', fun σ' H' ⟨y, iy, ly, ny, ey⟩ => ⟨mz y, ly, y, iy, rfl, ny, ey⟩, ?_⟩
    exact hy hb σ1 H2 c2 g2 _ (fun σ' H' e3 ⟨y, iy, ly, ny⟩ => ⟨y, iy, ly, ny, e12.trans (l.exm e3)⟩) dr (fun σ' H' e3 n3 => dn σ' H' (e12.trans (l.exm e3)) n3) (fun σ' H' e3 ⟨y, iy, ly, ny⟩ => ⟨y, iy, ly, ny, e12.trans (l.exm e3)⟩)
  | false =>
    rw [if_neg Bool.false_ne_true]
    exact dn σ1 H2 e12 (hn hb σ1 H2 ⟨c2, g2⟩)
/-- found, a, b = [], .., ..: ints -/
theorem tys_own3 (h : TyL W Γ te []) (h1 : Ty W Γ t1 (dt K (.int a))) (h2 : Ty W Γ t2 (dt K (.int b)))
    (hb : ∀ D (nb : ¬ W.B D), ¬ W.M D → TyS (W.own D nb []) (((Γ.set n (some (isV (.ref D)))).set m (some (dt K (.int a)))).set k (some (dt K (.int b)))) tw N R noN noN) : TyS W Γ (tSeq (tPar3 n m k (tCons te (tCons t1 (tCons t2 tNil)))) tw) N R Bk Ct := fun σ H c g E dn dr db dc =>
  h σ H c g _ fun p xs H1 e hp hx1 hx2 => h1 σ H1 (c.up e) (g.up e.toW) _ fun v H2 e2 hv => h2 σ H2 (c.up (e.trans e2)) (g.up (e.trans e2).toW) _ fun w H3 e3 hw => by
    cases hv
    cases hw
    refine ⟨.ref p, .int a, .int b, rfl, ?_⟩
    have nm : ¬ W.M p := c.nm hp
    have nb : ¬ W.B p := c.nb hp
    have e13 := e.trans (e2.trans e3)
    have hx3 : H3 p = some (.lst xs) := e3.keep (e2.keep hx1 nb) nb
    have c1 := c.up e13
    have c2 : Cxt (W.own p nb []) H3 := ⟨c1.box, fun a z => z.elim (c1.al a) (fun w => by rw [w, hx3]; intro q; cases q), c1.ex, ⟨H, c.own, hp, e13⟩, c.ex.free hp, xs, hx3, by
      match xs, hx2 with
      | [], _ => exact True.intro⟩
    have g1 : EnvL (Ew.ad W.M p) W.B Γ σ H3 := (EnvL.weak hp g).up (e13.toM fun a h => .inl (W.sub a h))
    exact hb p nb nm _ H3 c2 (EnvL.set (T := dt K (.int b)) (.int b) (EnvL.set (T := dt K (.int a)) (.int a) (EnvL.set (T := isV (.ref p)) rfl g1))) E (fun σ' H' e' n => dn σ' H' (Exm.less e13 e' W.sub hp) n) dr (fun _ _ _ z => z.elim) (fun _ _ _ z => z.elim)
/-- the list is done, what follows may go on -/
theorem tys_finN {D : Addr} {nb : ¬ W.B D} {Ts : List Typ} (hi : Γ[i]? = some (some (isV (.ref D)))) (nm : ¬ W.M D) (h : TyS W (Γ.set i (some (lstT Ts))) tw N R Bk Ct) : TyS (W.own D nb Ts) Γ tw N R Bk Ct := fun σ H c g E dn dr db dc => by
  obtain ⟨v, h1, h2⟩ := g.get hi
  have hv : v = .ref D := h2
  subst hv
  obtain ⟨_, _, xs, o4, o5⟩ := c.own
  have g1 : EnvL W.M W.B Γ σ H := EnvL.drop g
  have z := EnvL.set (T := lstT Ts) (i := i) (v := .ref D) ⟨D, xs, rfl, nm, o4, o5.drop⟩ g1
  have e : σ.set i (some (V.ref D)) = σ := by
    apply List.ext_getElem?
    intro j
    by_cases hj : i = j
    · subst hj
      rw [List.getElem?_set_self (List.getElem?_eq_some_iff.mp h1).1, h1]
    · rw [List.getElem?_set_ne hj]
  rw [e] at z
  exact h σ H (own_out c) z E (fun σ' H' e n => dn σ' H' e.adM n) dr (fun σ' H' e n => db σ' H' e.adM n) fun σ' H' e n => dc σ' H' e.adM n
end
end Ew

end
section
set_option Elab.async false
set_option linter.all false
set_option maxRecDepth 100000
set_option maxHeartbeats 2000000
namespace PySem
namespace WrX
open PySem.W PySem.Calls PyProof.Rows PySem.HandSPX
section
variable {prog : Program} {w : World} {A : Around} {E : Value → Shared → Prop} {R : Result → Shared → Prop} {h : Heap} {g : Array GenState} {d : Drawn} {t : Nat} {os : OsState} {M : Model}
variable {nm q : Str} {C N : Addr} {bs bm bmB : List Value} {hdct : Bool} {sn : List Str} {sub : List Value} {ab : Bool} {col : Option Bool} {dd : Option Addr} {k0 k1 k2 k3 k5 : Option Value} {B newId initId : String}
theorem check_new_kw (F : ExcBaseFacts B newId initId bmB) (hT : ∀ X : String, bm.contains (.type X) = bmB.contains (.type X)) {rest : List Value} {kw : List (Str × Value)} {Q : Unit → Shared → Prop}
    (hC : h.get? C = some (excClassObj nm q C N bs bm hdct sn sub ab col dd k0 k1 k2 k3 k5 newId)) (hq : Q () ⟨h, g, d, t, os⟩) : wpAny M A (checkBuiltinCall newId ⟨.ref C :: rest, kw⟩) Q E ⟨h, g, d, t, os⟩ := by
  have hcont : (Value.ref C :: bm).contains (.type B) = true := by rw [List.contains_cons, hT, F.hasB, Bool.or_true]
  have hstar := F.noStar
  simp only [checkBuiltinCall, F.newKind, F.newSplit, F.newRow]
  repeat (first | refine wpAny_loadPart_at hC ?_ | (refine wpAny_isSubtype_exc hC ?_; rw [hcont]) | refine wpAny_staticBase_exc hC ?_ | refine wpAny_madeBy_exc hC ?_ | simp only [bne_self_eq_false, Bool.false_eq_true, if_false] | wp_step)
  exact hq
theorem new_kw (F : ExcBaseFacts B newId initId bmB) (hT : ∀ X : String, bm.contains (.type X) = bmB.contains (.type X)) {rest : List Value} {kw : List (Str × Value)}
    (hC : h.get? C = some (excClassObj nm q C N bs bm hdct sn sub ab col dd k0 k1 k2 k3 k5 newId))
    (hq : R (.ok (.ret (.ref (h.objs.size + 1)))) ⟨(h.push (W.kdv_tup rest)).push (excO C h.objs.size), g, d, t, os⟩) (hrest : rest.length ≤ sizeLine) :
    codeAny (model prog w) A (.builtin newId ⟨.ref C :: rest, kw⟩) R ⟨h, g, d, t, os⟩ := by
  have hends := F.ends
  have hcB : (Value.ref C :: bm).contains (.type B) = true := by rw [List.contains_cons, hT, F.hasB, Bool.or_true]
  have hcA : (Value.ref C :: bm).contains (.type "AttributeError") = false := by rw [List.contains_cons, hT, F.noAttr]; rfl
  have hcN : (Value.ref C :: bm).contains (.type "NameError") = false := by rw [List.contains_cons, hT, F.noName]; rfl
  refine codeAny_builtinAt F.entry ?_
  unfold Builtin.«BaseException.__new__»
  refine wpAt_bind ?_
  show wpAt _ _ _ (stack >>= _) _ _ _
  refine wpAt_bind (wpAt_stack fun p below => wpAt_of_wpAny ?_)
  wp_walk
  refine wpAt_of_wpAny ?_
  rw [F.owner]
  repeat (first | with_reducible refine wpAny_madeHere_exc F.canon hC ?_ | with_reducible refine wpAny_loadPart_at hC ?_ | (with_reducible refine wpAny_isSubtype_exc hC ?_; first | rw [hcB] | rw [hcA] | rw [hcN]) | wp_step)
  show R _ _
  rw [Heap.size_push]
  exact hq
theorem type_call_kw (F : ExcBaseFacts B newId initId bmB) (hT : ∀ X : String, bm.contains (.type X) = bmB.contains (.type X)) {rest : List Value} {kw : List (Str × Value)} {fI : Addr} {Q : Fin → Shared → Prop}
    (hC : h.get? C = some (excClassObj nm q C N bs bm hdct sn sub ab col dd k0 k1 k2 k3 k5 newId))
    (hi : W.Looks (model prog w) h (typeLookup (.ref C) "__init__") (some (.ref fI))) (hb : ∀ self, W.Looks (model prog w) h (bindSpecial (.ref fI) self) (.ref fI, [self])) (hrest : rest.length ≤ sizeLine)
    (hq : codeAny (model prog w) A (.call (.ref fI) ⟨.ref (h.objs.size + 1) :: rest, kw⟩)
      (fun r s' => match r with | .ok (.ret v) => v = .none ∧ Q (.done (.ret (.ref (h.objs.size + 1)))) s' | .ok _ => False | .error e => E e s')
      ⟨(h.push (W.kdv_tup rest)).push (excO C h.objs.size), g, d, t, os⟩) :
    wpAny (model prog w) A (Builtin.«type.__call__» ⟨.ref C :: rest, kw⟩) Q E ⟨h, g, d, t, os⟩ := by
  repeat (first | with_reducible refine wpAny_loadPart_at hC ?_ | with_reducible refine wpAny_madeBy_exc hC ?_ | wp_step)
  refine codeAny_call_builtin_code (Code.quiet_builtin _ F.quiet) (check_new_kw F hT hC ?_)
  refine new_kw F hT hC ?_ hrest
  show wpAny _ _ _ _ _ _
  have k : ∀ b o, h.get? b = some o → ((h.push (W.kdv_tup rest)).push (excO C h.objs.size)).get? b = some o := fun b o e => Heap.get?_push_of_some _ (Heap.get?_push_of_some _ e)
  have hC₁ := k _ _ hC
  have hget : ((h.push (W.kdv_tup rest)).push (excO C h.objs.size)).get? (h.objs.size + 1) = some (excO C h.objs.size) := by heap_get
  have hcC : (Value.ref C :: bm).contains (.ref C) = true := by simp
  have i1 := hi.keeps k
  have b1 := (hb (.ref (h.objs.size + 1))).keeps k
  unfold isInstance
  repeat (first | with_reducible refine wpAny_loadPart_at hget ?_ | (with_reducible refine wpAny_isSubtype_exc hC₁ ?_; rw [hcC]) | wp_step)
  show wpAny _ _ (typeLookup (.ref C) _) _ _ _
  refine i1.at ?_
  refine wpAny_holding (wpAny_bind (b1.at ?_))
  refine wpAny_bind (wpAny_call (codeAny_mono hq fun r s' z => ?_))
  rcases r with e | (v | _ | _ | _) <;> first | exact z | exact z.elim | skip
  obtain ⟨rfl, z⟩ := z
  first
    | exact wpAny_pure (wpAny_pure z)
    | (wp_walk; exact z)
theorem call_own_kw (F : ExcBaseFacts B newId initId bmB) (hT : ∀ X : String, bm.contains (.type X) = bmB.contains (.type X)) {rest : List Value} {kw : List (Str × Value)} {fI : Addr}
    (hC : h.get? C = some (excClassObj nm q C N bs bm hdct sn sub ab col dd k0 k1 k2 k3 k5 newId))
    (hi : W.Looks (model prog w) h (typeLookup (.ref C) "__init__") (some (.ref fI))) (hb : ∀ self, W.Looks (model prog w) h (bindSpecial (.ref fI) self) (.ref fI, [self])) (hrest : rest.length ≤ sizeLine)
    (hq : codeAny (model prog w) (A.under (.builtin "type.__call__" ⟨.ref C :: rest, kw⟩)) (.call (.ref fI) ⟨.ref (h.objs.size + 1) :: rest, kw⟩) (W.InitBack (h.objs.size + 1) R)
      ⟨(h.push (W.kdv_tup rest)).push (excO C h.objs.size), g, d, t, os⟩) :
    codeAny (model prog w) A (.call (.ref C) ⟨rest, kw⟩) R ⟨h, g, d, t, os⟩ := by
  have f1 := tc_lookup
  have f2 := tc_bind (.ref C)
  have hTy : (⟨h, g, d, t, os⟩ : Shared).TypeIs (.ref C) "type" := ⟨_, hC, rfl⟩
  refine codeAny_of_tree ?_
  show wpAny _ _ (callAny (.ref C) _) _ _ _
  repeat (any_goals (first | assumption | with_reducible refine wpAny_loadPart_at hC ?_ | wp_step))
  refine ⟨rfl, ?_⟩
  refine codeAny_call_builtin_at (Code.quiet_builtin _ (by decide +kernel)) entry_typeCall (wpAny_check_type_call_sub hC (type_call_kw F hT hC hi hb hrest ?_))
  refine codeAny_mono hq fun r s' z => ?_
  rcases r with e | (v | _ | _ | _) <;> exact z
end
end WrX
end PySem
namespace PySem
namespace WrX
open PySem.W PySem.Calls PyProof.Rows PySem.HandSPX

/-- what is left of a fresh exception at x behind its __init__ -/
structure InitE (h h' : Heap) (x C dx t1 : Addr) (m : Str → Option Value) : Prop where
  keep : ∀ b o, b ≠ x → h.get? b = some o → h'.get? b = some o
  obj : h'.get? x = some { cls := .ref C, dict := some dx, data := .fields #[.ref t1, .none, .none, .none, .bool false, .none] }
  dbig : h.objs.size ≤ dx
  dne : dx ≠ x
  ns : h'.Ns1 dx m
/-- a made one -/
structure MadeE (h h' : Heap) (e C d : Addr) (m : Str → Option Value) : Prop where
  keep : ∀ b o, h.get? b = some o → h'.get? b = some o
  new : h.objs.size ≤ e
  obj : ∃ oe vs, h'.get? e = some oe ∧ oe.cls = .ref C ∧ oe.dict = some d ∧ oe.data = .fields vs ∧ vs[1]? = some .none ∧ vs[2]? = some .none
  dbig : h.objs.size ≤ d
  dne : d ≠ e
  ns : h'.Ns1 d m
theorem he_lineT {o : Expr} {name : Str} {apos pos p4 : Pos} {es : List Expr} {k : Nat} {env : Env} (hl : (apos.endLine == pos.line) = true) :
    eval (.Call (.Attribute o name apos) [.Tuple es k p4] [] pos) env = (do
      let ov ← attributeBase o name env (eval o env)
      standAt apos.atName
      let (f, first) ← holding [ov] (getMethod ov name (L2.plainOf o env))
      callWith pos f first (backTo pos (starEach [.Tuple es k p4] env)) []) := by
  have e : eval (.Call (.Attribute o name apos) [.Tuple es k p4] [] pos) env = (do
    let ov ← attributeBase o name env (eval o env)
    standAt apos.atName
    methodCall o name apos pos env ov (List.length [Expr.Tuple es k p4] + List.length ([] : List Keyword)) (backTo pos (starEach [.Tuple es k p4] env)) (backToKw pos (keywordEach [] env))) := rfl
  rw [e]
  congr 1
  funext ov
  congr 1
  funext u
  exact L2.mcall_line rfl hl
def mG (v : Value) : Str → Option Value := fun y => if y = "given" then some v else none
section
variable {prog : Program} {w : World} {A : Around} {E : Value → Shared → Prop} {R : Result → Shared → Prop} {s : Shared} {K : Frag} {mg mb : Str → Option Value} {C D fI fJ : Addr} {qn : Str}
theorem we_initA {nm : Str} (Bt : BaseTxt prog K mg D fI) (T : ClsTxt K mg nm D fJ C) {x t0 : Addr} {v : Value} {args : Args} (ha : args = ⟨[.ref x, v], []⟩ ∨ args = ⟨[.ref x], [("given", v)]⟩) (X : K.In s.heap) (hlim : s.heap.NoLimit) (G : s.heap.Ns mainGlobals mg) (GB : ∃ mb, s.heap.Ns builtinsNs mb ∧ ∀ x : Str, x ≠ "__name__" → mb x = bootBuiltins x)
    (hx : s.heap.get? x = some (excO C t0)) (hnx : K.lookup x = none) (hroom : A.depth < recursionLimit)
    (hq : ∀ h' tk dx t1, InitE s.heap h' x C dx t1 (mG v) → R (.ok (.ret .none)) { s with heap := h', toks := tk }) :
    codeAny (model prog w) A (.call (.ref fI) args) R s := by
  obtain ⟨oc, od, Td, kV, doc, pm, an, cda, cc, ct, osl, p1, p2, p3, q1, q2, q3, q4, q5, q6, q7, q8, q9, q10, ccl, cl, cdd, cld, vs, ccs, csl, file, tf, tc, td, nT, tsl, ho, hcd, hcode, hvs, hfile, hcell, hT, hline⟩ := Bt.fn
  obtain ⟨nm', q, N, bs, sn, sub, ab, col, dd, k0, k1, k2, k3, k5, hC⟩ := T.cls
  have hcl : clsIn K C = some { name := nm', bases := bs, mro := .ref C :: .ref D :: veTail, ns := N, qualname := q, hasDict := true, slotNames := sn, subclasses := sub, abstract := ab, collection := col, hasDel := false } := by unfold clsIn; rw [hC] <;> rfl
  obtain ⟨cdD, hD⟩ := Bt.cD
  obtain ⟨mb, hbn, hbm⟩ := GB
  obtain ⟨hp, g, d, t, os⟩ := s
  have hxC : x ≠ C := fun z => by rw [z, hC] at hnx; cases hnx
  refine ks_codeAny_call_defAt (fd := ksFn "__init__" "WrapError.__init__" (iA p1 p2 p3) (iB q1 q2 q3 q4 q5 q6 q7 q8 q9 q10) iS (.ref Td) kV doc pm an (.ref cda) ct cc) (body := iB q1 q2 q3 q4 q5 q6 q7 q8 q9 q10) (binds := [("self", .ref x), ("given", v)])
    hroom (X _ _ ho) rfl hlim (codeRec_of X hcd) rfl (L2.BindsTo.of_looks fun M => ?bind) ?cell ?loc (fun h₁ hns₁ k₁ => ?_) rfl rfl rfl
  case bind =>
    rcases ha with rfl | rfl
    · refine L2.looks_items (α := List (Str × Value)) X hT rfl (Looks.of_pure ?_)
      rfl
    · refine L2.looks_items (α := List (Str × Value)) X hT rfl (Looks.of_pure ?_)
      rfl
  case cell =>
    intro y hy
    rcases List.mem_cons.mp hy with rfl | hy
    · exact fun z => by cases z
    rcases List.mem_cons.mp hy with rfl | hy
    · exact fun z => by cases z
    rcases List.mem_cons.mp hy with rfl | hy
    · exact fun z => by cases z
    rcases List.mem_cons.mp hy with rfl | hy
    · exact fun z => by cases z
    cases hy
  case loc =>
    intro y hy
    rcases List.mem_cons.mp hy with rfl | hy
    · rfl
    rcases List.mem_cons.mp hy with rfl | hy
    · rfl
    cases hy
  have X₁ : K.In h₁ := X.keeps k₁
  have hx₁ := k₁ _ _ hx
  have hxL : hp.objs.size ≠ x := Nat.ne_of_gt (Heap.lt_size hx)
  obtain ⟨oD, hD1, hD2⟩ : ∃ oD, h₁.get? D = some oD ∧ oD.data = .cls cdD := by
    unfold clsIn at hD
    split at hD
    · rename_i c d cd' sl ho
      cases hD
      exact ⟨_, X₁ _ _ ho, rfl⟩
    · cases hD
  show _root_.PySem.wpAt (model prog w) _ (.func (iB q1 q2 q3 q4 q5 q6 q7 q8 q9 q10) (ksEnv "WrapError.__init__" iS hp.objs.size fI (.ref cda) cc)) (execs (iB q1 q2 q3 q4 q5 q6 q7 q8 q9 q10) (ksEnv "WrapError.__init__" iS hp.objs.size fI (.ref cda) cc)) _ _ _
  refine ks_wpAt_execs_cons ?_
  refine ks_wpAt_Expr_any ?_
  refine ks_wpAt_MethodCall (pl := L2.plainOf (.Call (.Name "super" q1) [] [] q2) (ksEnv "WrapError.__init__" iS hp.objs.size fI (.ref cda) cc)) ?_ (he_line hline)
  refine (ks_wpAt_super_base (env := ksEnv "WrapError.__init__" iS hp.objs.size fI (.ref cda) cc) rfl rfl (by decide) rfl (X₁ _ _ ho) rfl rfl rfl (X₁ _ _ hcode) rfl hvs hfile Bt.top ?_)
  refine ks_loadName_global rfl rfl (loadGlobal_builtin (env := ksEnv "WrapError.__init__" iS hp.objs.size fI (.ref cda) cc) (G.keeps k₁) Bt.mS (hbn.keeps k₁) ((hbm _ (by decide)).trans boot_super) ⟨rfl, ?_⟩)
  refine wpAny_loadName_free rfl rfl rfl ⟨_, X₁ _ _ hcell, rfl⟩ ?_
  refine wpAny_loadName_local (v := .ref x) rfl rfl hns₁ rfl ?_
  refine ks_wpAny_isType_cls hD1 hD2 ⟨rfl, ?_⟩
  refine ks_wpAny_call_super hD1 hD2 hx₁ rfl (fun c e => by cases e) (looks_mroIn X₁ (mro_has hcl rfl)) (fun h₂ hso k₂ => ?_)
  have X₂ : K.In h₂ := X₁.keeps k₂
  have hx₂ := k₂ _ _ hx₁
  have I₂ : InstAt h₂ x (excO C t0) C none := ⟨hx₂, rfl, rfl, trivial⟩
  refine kxs_getMethod kxs_ValueError hso (looks_opaque X₂ Bt.any) (l₀ := .ref C :: .ref D :: veTail) (fun A Q E s k q => wpAny_bind ((looks_clsIn X₂ hcl) A _ E s k (wpAny_pure q))) (drop_to T.ne _) X₂ (along_ve K) (I₂.type.andThen (looks_subIn X₂ T.veC)) hxC (by decide) ?_
  have k₃ : ∀ b o, h₂.get? b = some o → (h₂.push (kxs_mw "ValueError.__init__" x)).get? b = some o := fun b o e => Heap.get?_push_of_some _ e
  have hu : (h₂.push (kxs_mw "ValueError.__init__" x)).get? h₂.objs.size = some (kxs_mw "ValueError.__init__" x) := Heap.get?_push_at rfl rfl
  have hns₃ := (hns₁.keeps k₂).keeps k₃
  refine callWith_mw (u := h₂.objs.size) (x := x) ?_
  refine spliced_more ?_
  refine ksLd (v := v) hns₃ rfl ?_
  refine spliced_none ⟨hu, ?_⟩
  have k03 : ∀ b o, hp.get? b = some o → (h₂.push (kxs_mw "ValueError.__init__" x)).get? b = some o := fun b o e => k₃ b o (k₂ b o (k₁ b o e))
  refine call_mw (e := x) (k03 _ _ (X _ _ hC)) (k03 _ _ hx) hu (one_size v) (fun h₄ t1 k₄ hx₄ => ?_)
  have k04 : ∀ b o, b ≠ x → hp.get? b = some o → h₄.get? b = some o := fun b o hb e => k₄ b o hb (k03 b o e)
  have X₄ : K.In h₄ := kept_but X hnx k04
  have hns₄ : h₄.Ns hp.objs.size (fun y => List.lookup y [(PySem.Str.ofString "self", Value.ref x), (PySem.Str.ofString "given", v)].reverse) := by
    obtain ⟨oL, es, ep, hL, r⟩ := hns₃
    exact ⟨oL, es, ep, k₄ _ _ hxL hL, r⟩
  -- self.given = given
  refine ks_wpAt_execs_cons (_root_.PySem.wpAt_of_wpAny (plainObj_wpAny_Assign_Attribute ?_))
  refine ksLd (v := v) hns₄ rfl (ksLd (v := .ref x) hns₄ rfl ?_)
  refine set_plain X₄ (ox := excO C t1) (od := none) ⟨hx₄, rfl, rfl, trivial⟩ T.sa ?_
  refine exc_osa X₄ hx₄ hcl (refs_two C D) rfl T.noN (fun h₅ tk₅ dx k₅ dn dne hx₅ hn₅ => ?_)
  refine _root_.PySem.wpAt_of_wpAny (wpAny_execs_nil (hq h₅ tk₅ dx t1 ⟨fun b o hb e => k₅ b o hb (k04 b o hb e), hx₅, Nat.le_trans ?_ dn, dne, hn₅⟩))
  obtain ⟨oL, es, ep, hL, r⟩ := hns₄
  exact Nat.le_of_lt (Heap.lt_size hL)
theorem we_madeA {nm : Str} (Bt : BaseTxt prog K mg D fI) (T : ClsTxt K mg nm D fI C) {v : Value} {rest : List Value} {kw : List (Str × Value)} (ha : (rest = [v] ∧ kw = []) ∨ (rest = [] ∧ kw = [(("given" : Str), v)])) (X : K.In s.heap) (hlim : s.heap.NoLimit) (G : s.heap.Ns mainGlobals mg) (GB : ∃ mb, s.heap.Ns builtinsNs mb ∧ ∀ x : Str, x ≠ "__name__" → mb x = bootBuiltins x) (hroom : A.depth + 4 < recursionLimit)
    (hq : ∀ h' tk e d, MadeE s.heap h' e C d (mG v) → R (.ok (.ret (.ref e))) { s with heap := h', toks := tk }) :
    codeAny (model prog w) A (.call (.ref C) ⟨rest, kw⟩) R s := by
  obtain ⟨nm', q, N, bs, sn, sub, ab, col, dd, k0, k1, k2, k3, k5, hC⟩ := T.cls
  obtain ⟨hp, g, dr, tk, os⟩ := s
  have k : ∀ b o, hp.get? b = some o → ((hp.push (kdv_tup rest)).push (excO C hp.objs.size)).get? b = some o := fun b o e => Heap.get?_push_of_some _ (Heap.get?_push_of_some _ e)
  have hget : ((hp.push (kdv_tup rest)).push (excO C hp.objs.size)).get? (hp.objs.size + 1) = some (excO C hp.objs.size) := by heap_get
  have hnx : K.lookup (hp.objs.size + 1) = none := by
    cases e : K.lookup (hp.objs.size + 1) with
    | none => rfl
    | some o =>
      have z : hp.get? (hp.objs.size + 1) = some o := X _ _ e
      exact absurd (Nat.lt_of_succ_lt (Heap.lt_size z)) (Nat.lt_irrefl _)
  refine call_own_kw F.excBase_ValueError (fun X => refsVE_contains X _ (refs D)) (X _ _ hC) (looks_findIn X T.iC) (fun self => bind_fn X self T.tI) (by rcases ha with ⟨rfl, _⟩ | ⟨rfl, _⟩ <;> exact Nat.le_trans (show _ ≤ 2 by simp) (by rw [sizeLine_eq]; decide)) ?_
  obtain ⟨mb, hb1, hb2⟩ := GB
  refine we_initA (s := ⟨(hp.push (kdv_tup rest)).push (excO C hp.objs.size), g, dr, tk, os⟩) Bt T (v := v) (by rcases ha with ⟨rfl, rfl⟩ | ⟨rfl, rfl⟩ <;> first | exact .inl rfl | exact .inr rfl) (X.keeps k) (hlim.keeps k) (G.keeps k) ⟨mb, hb1.keeps k, hb2⟩ hget hnx ?_ fun h' tk' dx t1 ⟨k', hx, dn, dne, hns⟩ => ?_
  · show A.depth + 1 < recursionLimit
    omega
  · have old : ∀ b o, hp.get? b = some o → h'.get? b = some o := fun b o e => k' b o (Nat.ne_of_lt (Nat.lt_succ_of_lt (Heap.lt_size e))) (k b o e)
    have z : hp.objs.size + 1 + 1 ≤ dx := by
      first
        | (simpa only [Heap.size_push] using dn)
        | exact dn
        | (have q := dn; rw [Heap.size_push, Heap.size_push] at q; exact q)
    exact ⟨rfl, hq h' tk' (hp.objs.size + 1) dx ⟨old, Nat.le_succ _, ⟨_, _, hx, rfl, rfl, rfl, rfl, rfl⟩, Nat.le_trans (Nat.le_trans (Nat.le_succ _) (Nat.le_succ _)) z, dne, hns⟩⟩
end
namespace F_count
def jA (p1 p2 : Pos) : Arguments := { posonlyargs := [], args := [{ arg := "self", annotation := none, pos := p1 }, { arg := "count", annotation := none, pos := p2 }], vararg := none, kwonlyargs := [], kw_defaults := [], kwarg := none, defaults := [] }
def jB (q1 q2 q3 q4 q5 q6 q7 q8 q9 q10 : Pos) : List Stmt := [.Expr (.Call (.Attribute (.Call (.Name "super" q1) [] [] q2) "__init__" q3) [.Name "count" q4] [] q5) q6, .Assign [.Attribute (.Name "self" q7) "count" q8] (.Name "count" q9) q10]
def jS : Scope := { kind := .function, names := [(PySem.Str.ofString "self", .local), (PySem.Str.ofString "count", .local), (PySem.Str.ofString "__class__", .free), (PySem.Str.ofString "super", .globalImplicit)], isGenerator := false, isCoroutine := false, more := [] }
/-- the own __init__ at fJ of the class C (a ClsTxt) over D -/
structure OwnTxt (prog : Program) (K : Frag) (qn : Str) (D fI C fJ : Addr) : Prop where
  fn : ∃ (oc : Value) (od : Option Addr) (kV doc pm : Value) (an : Option Addr) (cda cc : Addr) (ct : Value) (osl : Array (Option Value)) (p1 p2 q1 q2 q3 q4 q5 q6 q7 q8 q9 q10 : Pos) (ccl cl : Value) (cdd cld : Option Addr) (vs : Array Value) (ccs csl : Array (Option Value)) (file : Str) (tf : Tok),
    K.lookup fJ = some ⟨oc, od, .func (ksFn "__init__" qn (jA p1 p2) (jB q1 q2 q3 q4 q5 q6 q7 q8 q9 q10) jS .none kV doc pm an (.ref cda) ct cc), osl⟩ ∧ codeIn K (.ref cda) qn = true ∧
    K.lookup cda = some ⟨ccl, cdd, .fields vs, ccs⟩ ∧ vs[2]? = some (.str file tf) ∧ ((prog.main.file : Str) == file) = true ∧ K.lookup cc = some ⟨cl, cld, .cell (some (.ref C)), csl⟩ ∧ (q3.endLine == q5.line) = true
  noN : findIn K (.ref C) "count" = some none
  al : alongIn K "__init__" (.ref D :: veTail) = some (some (.ref fI))
  tI : typeIn K (.ref fI) = some (.type "function")
  fI : fnIn K fI = true
def mF (v : Value) : Str → Option Value := fun y => if y = "count" then some v else if y = "given" then some v else none
section
variable {prog : Program} {w : World} {A : Around} {E : Value → Shared → Prop} {R : Result → Shared → Prop} {s : Shared} {K : Frag} {mg mb : Str → Option Value} {C D fI fJ : Addr} {qn : Str}
theorem own_initA {nm : Str} (Bt : BaseTxt prog K mg D fI) (T : ClsTxt K mg nm D fJ C) (J : OwnTxt prog K qn D fI C fJ) {x t0 : Addr} {v : Value} {args : Args} (ha : args = ⟨[.ref x, v], []⟩ ∨ args = ⟨[.ref x], [("count", v)]⟩) (X : K.In s.heap) (hlim : s.heap.NoLimit) (G : s.heap.Ns mainGlobals mg) (GB : ∃ mb, s.heap.Ns builtinsNs mb ∧ ∀ x : Str, x ≠ "__name__" → mb x = bootBuiltins x)
    (hx : s.heap.get? x = some (excO C t0)) (hnx : K.lookup x = none) (hroom : A.depth + 3 < recursionLimit)
    (hq : ∀ h' tk dx t1, InitE s.heap h' x C dx t1 (mF v) → R (.ok (.ret .none)) { s with heap := h', toks := tk }) :
    codeAny (model prog w) A (.call (.ref fJ) args) R s := by
  obtain ⟨oc, od, kV, doc, pm, an, cda, cc, ct, osl, p1, p2, q1, q2, q3, q4, q5, q6, q7, q8, q9, q10, ccl, cl, cdd, cld, vs, ccs, csl, file, tf, ho, hcd, hcode, hvs, hfile, hcell, hline⟩ := J.fn
  obtain ⟨nm', q, N, bs, sn, sub, ab, col, dd, k0, k1, k2, k3, k5, hC⟩ := T.cls
  have hcl : clsIn K C = some { name := nm', bases := bs, mro := .ref C :: .ref D :: veTail, ns := N, qualname := q, hasDict := true, slotNames := sn, subclasses := sub, abstract := ab, collection := col, hasDel := false } := by unfold clsIn; rw [hC] <;> rfl
  obtain ⟨mb, hbn, hbm⟩ := GB
  obtain ⟨hp, g, d, t, os⟩ := s
  have hxC : x ≠ C := fun z => by rw [z, hC] at hnx; cases hnx
  refine ks_codeAny_call_defAt (fd := ksFn "__init__" qn (jA p1 p2) (jB q1 q2 q3 q4 q5 q6 q7 q8 q9 q10) jS .none kV doc pm an (.ref cda) ct cc) (body := jB q1 q2 q3 q4 q5 q6 q7 q8 q9 q10) (binds := [("self", .ref x), ("count", v)])
    (by omega) (X _ _ ho) rfl hlim (codeRec_of X hcd) rfl (.of_eq (by rcases ha with rfl | rfl <;> rfl)) ?cell ?loc (fun h₁ hns₁ k₁ => ?_) rfl rfl rfl
  case cell =>
    intro y hy
    rcases List.mem_cons.mp hy with rfl | hy
    · exact fun z => by cases z
    rcases List.mem_cons.mp hy with rfl | hy
    · exact fun z => by cases z
    rcases List.mem_cons.mp hy with rfl | hy
    · exact fun z => by cases z
    rcases List.mem_cons.mp hy with rfl | hy
    · exact fun z => by cases z
    cases hy
  case loc =>
    intro y hy
    rcases List.mem_cons.mp hy with rfl | hy
    · rfl
    rcases List.mem_cons.mp hy with rfl | hy
    · rfl
    cases hy
  have X₁ : K.In h₁ := X.keeps k₁
  have hx₁ := k₁ _ _ hx
  have hxL : hp.objs.size ≠ x := Nat.ne_of_gt (Heap.lt_size hx)
  have hC₁ := X₁ _ _ hC
  show _root_.PySem.wpAt (model prog w) _ (.func (jB q1 q2 q3 q4 q5 q6 q7 q8 q9 q10) (ksEnv qn jS hp.objs.size fJ (.ref cda) cc)) (execs (jB q1 q2 q3 q4 q5 q6 q7 q8 q9 q10) (ksEnv qn jS hp.objs.size fJ (.ref cda) cc)) _ _ _
  refine ks_wpAt_execs_cons ?_
  refine ks_wpAt_Expr_any ?_
  refine ks_wpAt_MethodCall (pl := L2.plainOf (.Call (.Name "super" q1) [] [] q2) (ksEnv qn jS hp.objs.size fJ (.ref cda) cc)) ?_ (he_line hline)
  refine (ks_wpAt_super_base (env := ksEnv qn jS hp.objs.size fJ (.ref cda) cc) rfl rfl (by decide) rfl (X₁ _ _ ho) rfl rfl rfl (X₁ _ _ hcode) rfl hvs hfile Bt.top ?_)
  refine ks_loadName_global rfl rfl (loadGlobal_builtin (env := ksEnv qn jS hp.objs.size fJ (.ref cda) cc) (G.keeps k₁) Bt.mS (hbn.keeps k₁) ((hbm _ (by decide)).trans boot_super) ⟨rfl, ?_⟩)
  refine wpAny_loadName_free rfl rfl rfl ⟨_, X₁ _ _ hcell, rfl⟩ ?_
  refine wpAny_loadName_local (v := .ref x) rfl rfl hns₁ rfl ?_
  refine ks_wpAny_isType_cls hC₁ rfl ⟨rfl, ?_⟩
  refine ks_wpAny_call_super hC₁ rfl hx₁ rfl (fun c e => by cases e) (looks_mroIn X₁ (mro_self hcl rfl)) (fun h₂ hso k₂ => ?_)
  have X₂ : K.In h₂ := X₁.keeps k₂
  have hx₂ := k₂ _ _ hx₁
  obtain ⟨of, hof, hofc⟩ : ∃ of, h₂.get? fI = some of ∧ of.cls = .type "function" := by
    have ht' : (K.lookup fI).map (·.cls) = some (.type "function") := J.tI
    cases z : K.lookup fI with
    | none => rw [z] at ht'; cases ht'
    | some of => rw [z] at ht'; exact ⟨of, X₂ _ _ z, Option.some.inj ht'⟩
  refine ks_wpAny_getMethod_super hso (looks_opaque X₂ Bt.any) (l₀ := .ref C :: .ref D :: veTail) (fun A Q E s k q => wpAny_bind ((looks_clsIn X₂ hcl) A _ E s k (wpAny_pure q))) (drop_self _ _) X₂ J.al hof hofc hxC (by decide) ?_
  have k₃ : ∀ b o, h₂.get? b = some o → (h₂.push (methodObj (.ref fI) (.ref x))).get? b = some o := fun b o e => Heap.get?_push_of_some _ e
  have hu : (h₂.push (methodObj (.ref fI) (.ref x))).get? h₂.objs.size = some (methodObj (.ref fI) (.ref x)) := Heap.get?_push_at rfl rfl
  have hns₃ := (hns₁.keeps k₂).keeps k₃
  have X₃ : K.In (h₂.push (methodObj (.ref fI) (.ref x))) := X₂.keeps k₃
  refine callWith_N (q := h₂.objs.size) (self := .ref x) J.fI ?_
  refine spliced_more ?_
  refine ksLd (v := v) hns₃ rfl ?_
  refine spliced_none ⟨⟨hu, X₃⟩, ?_⟩
  have k03 : ∀ b o, hp.get? b = some o → (h₂.push (methodObj (.ref fI) (.ref x))).get? b = some o := fun b o e => k₃ b o (k₂ b o (k₁ b o e))
  refine wpAny_call (method_call hu ?_)
  refine we_initA (s := ⟨_, g, d, _, os⟩) Bt T (.inl rfl) X₃ (hlim.keeps k03) (G.keeps k03) ⟨mb, hbn.keeps k03, hbm⟩ (k03 _ _ hx) hnx ?_ fun h₄ tk₄ dx t1 ⟨k₄, hx₄, dn, dne, hns⟩ => ?_
  · show _ < recursionLimit
    first
      | (show A.depth + 1 < recursionLimit; omega)
      | (show A.depth + 2 < recursionLimit; omega)
      | (simp only [Around.deeper]; omega)
  have k04 : ∀ b o, b ≠ x → hp.get? b = some o → h₄.get? b = some o := fun b o hb e => k₄ b o hb (k03 b o e)
  have X₄ : K.In h₄ := kept_but X hnx k04
  have hns₄ : h₄.Ns hp.objs.size (fun y => List.lookup y [(PySem.Str.ofString "self", Value.ref x), (PySem.Str.ofString "count", v)].reverse) := by
    obtain ⟨oL, es, ep, hL, r⟩ := hns₃
    exact ⟨oL, es, ep, k₄ _ _ hxL hL, r⟩
  -- self.count = count
  refine ks_wpAt_execs_cons (_root_.PySem.wpAt_of_wpAny (plainObj_wpAny_Assign_Attribute ?_))
  refine ksLd (v := v) hns₄ rfl (ksLd (v := .ref x) hns₄ rfl ?_)
  have hw : Within (fun y => if y = "given" then some v else none) ["given"] := Within.cons "given" v Within.nil
  obtain ⟨oD, esD, epD, hoD, hdD, _⟩ := hns.count hw
  refine set_plain X₄ (ox := { cls := .ref C, dict := some dx, data := .fields #[.ref t1, .none, .none, .none, .bool false, .none] }) (od := some oD) ⟨hx₄, rfl, rfl, hoD⟩ T.sa ?_
  refine PySem.OEX.osa_old X₄ hx₄ hns hw (by decide) hcl (refs_two C D) rfl J.noN (fun h₅ tk₅ k₅ hn₅ => ?_)
  have dbig : hp.objs.size ≤ dx := Nat.le_trans (by
    obtain ⟨oL, es, ep, hL, r⟩ := hns₃
    exact Nat.le_of_lt (Heap.lt_size hL)) dn
  refine _root_.PySem.wpAt_of_wpAny (wpAny_execs_nil (hq h₅ tk₅ dx t1 ⟨fun b o hb e => k₅ b o (Nat.ne_of_lt (Nat.lt_of_lt_of_le (Heap.lt_size e) dbig)) (k04 b o hb e), k₅ _ _ dne.symm hx₄, dbig, dne, hn₅⟩))
theorem own_madeA {nm : Str} (Bt : BaseTxt prog K mg D fI) (T : ClsTxt K mg nm D fJ C) (J : OwnTxt prog K qn D fI C fJ) {v : Value} {rest : List Value} {kw : List (Str × Value)} (ha : (rest = [v] ∧ kw = []) ∨ (rest = [] ∧ kw = [(("count" : Str), v)])) (X : K.In s.heap) (hlim : s.heap.NoLimit) (G : s.heap.Ns mainGlobals mg) (GB : ∃ mb, s.heap.Ns builtinsNs mb ∧ ∀ x : Str, x ≠ "__name__" → mb x = bootBuiltins x) (hroom : A.depth + 4 < recursionLimit)
    (hq : ∀ h' tk e d, MadeE s.heap h' e C d (mF v) → R (.ok (.ret (.ref e))) { s with heap := h', toks := tk }) :
    codeAny (model prog w) A (.call (.ref C) ⟨rest, kw⟩) R s := by
  obtain ⟨nm', q, N, bs, sn, sub, ab, col, dd, k0, k1, k2, k3, k5, hC⟩ := T.cls
  obtain ⟨hp, g, dr, tk, os⟩ := s
  have k : ∀ b o, hp.get? b = some o → ((hp.push (kdv_tup rest)).push (excO C hp.objs.size)).get? b = some o := fun b o e => Heap.get?_push_of_some _ (Heap.get?_push_of_some _ e)
  have hget : ((hp.push (kdv_tup rest)).push (excO C hp.objs.size)).get? (hp.objs.size + 1) = some (excO C hp.objs.size) := by heap_get
  have hnx : K.lookup (hp.objs.size + 1) = none := by
    cases e : K.lookup (hp.objs.size + 1) with
    | none => rfl
    | some o =>
      have z : hp.get? (hp.objs.size + 1) = some o := X _ _ e
      exact absurd (Nat.lt_of_succ_lt (Heap.lt_size z)) (Nat.lt_irrefl _)
  refine call_own_kw F.excBase_ValueError (fun X => refsVE_contains X _ (refs D)) (X _ _ hC) (looks_findIn X T.iC) (fun self => bind_fn X self T.tI) (by rcases ha with ⟨rfl, _⟩ | ⟨rfl, _⟩ <;> exact Nat.le_trans (show _ ≤ 2 by simp) (by rw [sizeLine_eq]; decide)) ?_
  obtain ⟨mb, hb1, hb2⟩ := GB
  refine own_initA (s := ⟨(hp.push (kdv_tup rest)).push (excO C hp.objs.size), g, dr, tk, os⟩) Bt T J (v := v) (by rcases ha with ⟨rfl, rfl⟩ | ⟨rfl, rfl⟩ <;> first | exact .inl rfl | exact .inr rfl) (X.keeps k) (hlim.keeps k) (G.keeps k) ⟨mb, hb1.keeps k, hb2⟩ hget hnx ?_ fun h' tk' dx t1 ⟨k', hx, dn, dne, hns⟩ => ?_
  · show A.depth + 1 + 3 < recursionLimit
    omega
  · have old : ∀ b o, hp.get? b = some o → h'.get? b = some o := fun b o e => k' b o (Nat.ne_of_lt (Nat.lt_succ_of_lt (Heap.lt_size e))) (k b o e)
    have z : hp.objs.size + 1 + 1 ≤ dx := by
      first
        | (simpa only [Heap.size_push] using dn)
        | exact dn
        | (have q := dn; rw [Heap.size_push, Heap.size_push] at q; exact q)
    exact ⟨rfl, hq h' tk' (hp.objs.size + 1) dx ⟨old, Nat.le_succ _, ⟨_, _, hx, rfl, rfl, rfl, rfl, rfl⟩, Nat.le_trans (Nat.le_trans (Nat.le_succ _) (Nat.le_succ _)) z, dne, hns⟩⟩
end
end F_count
namespace F_line
def jA (p1 p2 : Pos) : Arguments := { posonlyargs := [], args := [{ arg := "self", annotation := none, pos := p1 }, { arg := "line", annotation := none, pos := p2 }], vararg := none, kwonlyargs := [], kw_defaults := [], kwarg := none, defaults := [] }
def jB (q1 q2 q3 q4 q5 q6 q7 q8 q9 q10 : Pos) : List Stmt := [.Expr (.Call (.Attribute (.Call (.Name "super" q1) [] [] q2) "__init__" q3) [.Name "line" q4] [] q5) q6, .Assign [.Attribute (.Name "self" q7) "line" q8] (.Name "line" q9) q10]
def jS : Scope := { kind := .function, names := [(PySem.Str.ofString "self", .local), (PySem.Str.ofString "line", .local), (PySem.Str.ofString "__class__", .free), (PySem.Str.ofString "super", .globalImplicit)], isGenerator := false, isCoroutine := false, more := [] }
/-- the own __init__ at fJ of the class C (a ClsTxt) over D -/
structure OwnTxt (prog : Program) (K : Frag) (qn : Str) (D fI C fJ : Addr) : Prop where
  fn : ∃ (oc : Value) (od : Option Addr) (kV doc pm : Value) (an : Option Addr) (cda cc : Addr) (ct : Value) (osl : Array (Option Value)) (p1 p2 q1 q2 q3 q4 q5 q6 q7 q8 q9 q10 : Pos) (ccl cl : Value) (cdd cld : Option Addr) (vs : Array Value) (ccs csl : Array (Option Value)) (file : Str) (tf : Tok),
    K.lookup fJ = some ⟨oc, od, .func (ksFn "__init__" qn (jA p1 p2) (jB q1 q2 q3 q4 q5 q6 q7 q8 q9 q10) jS .none kV doc pm an (.ref cda) ct cc), osl⟩ ∧ codeIn K (.ref cda) qn = true ∧
    K.lookup cda = some ⟨ccl, cdd, .fields vs, ccs⟩ ∧ vs[2]? = some (.str file tf) ∧ ((prog.main.file : Str) == file) = true ∧ K.lookup cc = some ⟨cl, cld, .cell (some (.ref C)), csl⟩ ∧ (q3.endLine == q5.line) = true
  noN : findIn K (.ref C) "line" = some none
  al : alongIn K "__init__" (.ref D :: veTail) = some (some (.ref fI))
  tI : typeIn K (.ref fI) = some (.type "function")
  fI : fnIn K fI = true
def mF (v : Value) : Str → Option Value := fun y => if y = "line" then some v else if y = "given" then some v else none
section
variable {prog : Program} {w : World} {A : Around} {E : Value → Shared → Prop} {R : Result → Shared → Prop} {s : Shared} {K : Frag} {mg mb : Str → Option Value} {C D fI fJ : Addr} {qn : Str}
theorem own_initA {nm : Str} (Bt : BaseTxt prog K mg D fI) (T : ClsTxt K mg nm D fJ C) (J : OwnTxt prog K qn D fI C fJ) {x t0 : Addr} {v : Value} {args : Args} (ha : args = ⟨[.ref x, v], []⟩ ∨ args = ⟨[.ref x], [("line", v)]⟩) (X : K.In s.heap) (hlim : s.heap.NoLimit) (G : s.heap.Ns mainGlobals mg) (GB : ∃ mb, s.heap.Ns builtinsNs mb ∧ ∀ x : Str, x ≠ "__name__" → mb x = bootBuiltins x)
    (hx : s.heap.get? x = some (excO C t0)) (hnx : K.lookup x = none) (hroom : A.depth + 3 < recursionLimit)
    (hq : ∀ h' tk dx t1, InitE s.heap h' x C dx t1 (mF v) → R (.ok (.ret .none)) { s with heap := h', toks := tk }) :
    codeAny (model prog w) A (.call (.ref fJ) args) R s := by
  obtain ⟨oc, od, kV, doc, pm, an, cda, cc, ct, osl, p1, p2, q1, q2, q3, q4, q5, q6, q7, q8, q9, q10, ccl, cl, cdd, cld, vs, ccs, csl, file, tf, ho, hcd, hcode, hvs, hfile, hcell, hline⟩ := J.fn
  obtain ⟨nm', q, N, bs, sn, sub, ab, col, dd, k0, k1, k2, k3, k5, hC⟩ := T.cls
  have hcl : clsIn K C = some { name := nm', bases := bs, mro := .ref C :: .ref D :: veTail, ns := N, qualname := q, hasDict := true, slotNames := sn, subclasses := sub, abstract := ab, collection := col, hasDel := false } := by unfold clsIn; rw [hC] <;> rfl
  obtain ⟨mb, hbn, hbm⟩ := GB
  obtain ⟨hp, g, d, t, os⟩ := s
  have hxC : x ≠ C := fun z => by rw [z, hC] at hnx; cases hnx
  refine ks_codeAny_call_defAt (fd := ksFn "__init__" qn (jA p1 p2) (jB q1 q2 q3 q4 q5 q6 q7 q8 q9 q10) jS .none kV doc pm an (.ref cda) ct cc) (body := jB q1 q2 q3 q4 q5 q6 q7 q8 q9 q10) (binds := [("self", .ref x), ("line", v)])
    (by omega) (X _ _ ho) rfl hlim (codeRec_of X hcd) rfl (.of_eq (by rcases ha with rfl | rfl <;> rfl)) ?cell ?loc (fun h₁ hns₁ k₁ => ?_) rfl rfl rfl
  case cell =>
    intro y hy
    rcases List.mem_cons.mp hy with rfl | hy
    · exact fun z => by cases z
    rcases List.mem_cons.mp hy with rfl | hy
    · exact fun z => by cases z
    rcases List.mem_cons.mp hy with rfl | hy
    · exact fun z => by cases z
    rcases List.mem_cons.mp hy with rfl | hy
    · exact fun z => by cases z
    cases hy
  case loc =>
    intro y hy
    rcases List.mem_cons.mp hy with rfl | hy
    · rfl
    rcases List.mem_cons.mp hy with rfl | hy
    · rfl
    cases hy
  have X₁ : K.In h₁ := X.keeps k₁
  have hx₁ := k₁ _ _ hx
  have hxL : hp.objs.size ≠ x := Nat.ne_of_gt (Heap.lt_size hx)
  have hC₁ := X₁ _ _ hC
  show _root_.PySem.wpAt (model prog w) _ (.func (jB q1 q2 q3 q4 q5 q6 q7 q8 q9 q10) (ksEnv qn jS hp.objs.size fJ (.ref cda) cc)) (execs (jB q1 q2 q3 q4 q5 q6 q7 q8 q9 q10) (ksEnv qn jS hp.objs.size fJ (.ref cda) cc)) _ _ _
  refine ks_wpAt_execs_cons ?_
  refine ks_wpAt_Expr_any ?_
  refine ks_wpAt_MethodCall (pl := L2.plainOf (.Call (.Name "super" q1) [] [] q2) (ksEnv qn jS hp.objs.size fJ (.ref cda) cc)) ?_ (he_line hline)
  refine (ks_wpAt_super_base (env := ksEnv qn jS hp.objs.size fJ (.ref cda) cc) rfl rfl (by decide) rfl (X₁ _ _ ho) rfl rfl rfl (X₁ _ _ hcode) rfl hvs hfile Bt.top ?_)
  refine ks_loadName_global rfl rfl (loadGlobal_builtin (env := ksEnv qn jS hp.objs.size fJ (.ref cda) cc) (G.keeps k₁) Bt.mS (hbn.keeps k₁) ((hbm _ (by decide)).trans boot_super) ⟨rfl, ?_⟩)
  refine wpAny_loadName_free rfl rfl rfl ⟨_, X₁ _ _ hcell, rfl⟩ ?_
  refine wpAny_loadName_local (v := .ref x) rfl rfl hns₁ rfl ?_
  refine ks_wpAny_isType_cls hC₁ rfl ⟨rfl, ?_⟩
  refine ks_wpAny_call_super hC₁ rfl hx₁ rfl (fun c e => by cases e) (looks_mroIn X₁ (mro_self hcl rfl)) (fun h₂ hso k₂ => ?_)
  have X₂ : K.In h₂ := X₁.keeps k₂
  have hx₂ := k₂ _ _ hx₁
  obtain ⟨of, hof, hofc⟩ : ∃ of, h₂.get? fI = some of ∧ of.cls = .type "function" := by
    have ht' : (K.lookup fI).map (·.cls) = some (.type "function") := J.tI
    cases z : K.lookup fI with
    | none => rw [z] at ht'; cases ht'
    | some of => rw [z] at ht'; exact ⟨of, X₂ _ _ z, Option.some.inj ht'⟩
  refine ks_wpAny_getMethod_super hso (looks_opaque X₂ Bt.any) (l₀ := .ref C :: .ref D :: veTail) (fun A Q E s k q => wpAny_bind ((looks_clsIn X₂ hcl) A _ E s k (wpAny_pure q))) (drop_self _ _) X₂ J.al hof hofc hxC (by decide) ?_
  have k₃ : ∀ b o, h₂.get? b = some o → (h₂.push (methodObj (.ref fI) (.ref x))).get? b = some o := fun b o e => Heap.get?_push_of_some _ e
  have hu : (h₂.push (methodObj (.ref fI) (.ref x))).get? h₂.objs.size = some (methodObj (.ref fI) (.ref x)) := Heap.get?_push_at rfl rfl
  have hns₃ := (hns₁.keeps k₂).keeps k₃
  have X₃ : K.In (h₂.push (methodObj (.ref fI) (.ref x))) := X₂.keeps k₃
  refine callWith_N (q := h₂.objs.size) (self := .ref x) J.fI ?_
  refine spliced_more ?_
  refine ksLd (v := v) hns₃ rfl ?_
  refine spliced_none ⟨⟨hu, X₃⟩, ?_⟩
  have k03 : ∀ b o, hp.get? b = some o → (h₂.push (methodObj (.ref fI) (.ref x))).get? b = some o := fun b o e => k₃ b o (k₂ b o (k₁ b o e))
  refine wpAny_call (method_call hu ?_)
  refine we_initA (s := ⟨_, g, d, _, os⟩) Bt T (.inl rfl) X₃ (hlim.keeps k03) (G.keeps k03) ⟨mb, hbn.keeps k03, hbm⟩ (k03 _ _ hx) hnx ?_ fun h₄ tk₄ dx t1 ⟨k₄, hx₄, dn, dne, hns⟩ => ?_
  · show _ < recursionLimit
    first
      | (show A.depth + 1 < recursionLimit; omega)
      | (show A.depth + 2 < recursionLimit; omega)
      | (simp only [Around.deeper]; omega)
  have k04 : ∀ b o, b ≠ x → hp.get? b = some o → h₄.get? b = some o := fun b o hb e => k₄ b o hb (k03 b o e)
  have X₄ : K.In h₄ := kept_but X hnx k04
  have hns₄ : h₄.Ns hp.objs.size (fun y => List.lookup y [(PySem.Str.ofString "self", Value.ref x), (PySem.Str.ofString "line", v)].reverse) := by
    obtain ⟨oL, es, ep, hL, r⟩ := hns₃
    exact ⟨oL, es, ep, k₄ _ _ hxL hL, r⟩
  -- self.count = count
  refine ks_wpAt_execs_cons (_root_.PySem.wpAt_of_wpAny (plainObj_wpAny_Assign_Attribute ?_))
  refine ksLd (v := v) hns₄ rfl (ksLd (v := .ref x) hns₄ rfl ?_)
  have hw : Within (fun y => if y = "given" then some v else none) ["given"] := Within.cons "given" v Within.nil
  obtain ⟨oD, esD, epD, hoD, hdD, _⟩ := hns.count hw
  refine set_plain X₄ (ox := { cls := .ref C, dict := some dx, data := .fields #[.ref t1, .none, .none, .none, .bool false, .none] }) (od := some oD) ⟨hx₄, rfl, rfl, hoD⟩ T.sa ?_
  refine PySem.OEX.osa_old X₄ hx₄ hns hw (by decide) hcl (refs_two C D) rfl J.noN (fun h₅ tk₅ k₅ hn₅ => ?_)
  have dbig : hp.objs.size ≤ dx := Nat.le_trans (by
    obtain ⟨oL, es, ep, hL, r⟩ := hns₃
    exact Nat.le_of_lt (Heap.lt_size hL)) dn
  refine _root_.PySem.wpAt_of_wpAny (wpAny_execs_nil (hq h₅ tk₅ dx t1 ⟨fun b o hb e => k₅ b o (Nat.ne_of_lt (Nat.lt_of_lt_of_le (Heap.lt_size e) dbig)) (k04 b o hb e), k₅ _ _ dne.symm hx₄, dbig, dne, hn₅⟩))
theorem own_madeA {nm : Str} (Bt : BaseTxt prog K mg D fI) (T : ClsTxt K mg nm D fJ C) (J : OwnTxt prog K qn D fI C fJ) {v : Value} {rest : List Value} {kw : List (Str × Value)} (ha : (rest = [v] ∧ kw = []) ∨ (rest = [] ∧ kw = [(("line" : Str), v)])) (X : K.In s.heap) (hlim : s.heap.NoLimit) (G : s.heap.Ns mainGlobals mg) (GB : ∃ mb, s.heap.Ns builtinsNs mb ∧ ∀ x : Str, x ≠ "__name__" → mb x = bootBuiltins x) (hroom : A.depth + 4 < recursionLimit)
    (hq : ∀ h' tk e d, MadeE s.heap h' e C d (mF v) → R (.ok (.ret (.ref e))) { s with heap := h', toks := tk }) :
    codeAny (model prog w) A (.call (.ref C) ⟨rest, kw⟩) R s := by
  obtain ⟨nm', q, N, bs, sn, sub, ab, col, dd, k0, k1, k2, k3, k5, hC⟩ := T.cls
  obtain ⟨hp, g, dr, tk, os⟩ := s
  have k : ∀ b o, hp.get? b = some o → ((hp.push (kdv_tup rest)).push (excO C hp.objs.size)).get? b = some o := fun b o e => Heap.get?_push_of_some _ (Heap.get?_push_of_some _ e)
  have hget : ((hp.push (kdv_tup rest)).push (excO C hp.objs.size)).get? (hp.objs.size + 1) = some (excO C hp.objs.size) := by heap_get
  have hnx : K.lookup (hp.objs.size + 1) = none := by
    cases e : K.lookup (hp.objs.size + 1) with
    | none => rfl
    | some o =>
      have z : hp.get? (hp.objs.size + 1) = some o := X _ _ e
      exact absurd (Nat.lt_of_succ_lt (Heap.lt_size z)) (Nat.lt_irrefl _)
  refine call_own_kw F.excBase_ValueError (fun X => refsVE_contains X _ (refs D)) (X _ _ hC) (looks_findIn X T.iC) (fun self => bind_fn X self T.tI) (by rcases ha with ⟨rfl, _⟩ | ⟨rfl, _⟩ <;> exact Nat.le_trans (show _ ≤ 2 by simp) (by rw [sizeLine_eq]; decide)) ?_
  obtain ⟨mb, hb1, hb2⟩ := GB
  refine own_initA (s := ⟨(hp.push (kdv_tup rest)).push (excO C hp.objs.size), g, dr, tk, os⟩) Bt T J (v := v) (by rcases ha with ⟨rfl, rfl⟩ | ⟨rfl, rfl⟩ <;> first | exact .inl rfl | exact .inr rfl) (X.keeps k) (hlim.keeps k) (G.keeps k) ⟨mb, hb1.keeps k, hb2⟩ hget hnx ?_ fun h' tk' dx t1 ⟨k', hx, dn, dne, hns⟩ => ?_
  · show A.depth + 1 + 3 < recursionLimit
    omega
  · have old : ∀ b o, hp.get? b = some o → h'.get? b = some o := fun b o e => k' b o (Nat.ne_of_lt (Nat.lt_succ_of_lt (Heap.lt_size e))) (k b o e)
    have z : hp.objs.size + 1 + 1 ≤ dx := by
      first
        | (simpa only [Heap.size_push] using dn)
        | exact dn
        | (have q := dn; rw [Heap.size_push, Heap.size_push] at q; exact q)
    exact ⟨rfl, hq h' tk' (hp.objs.size + 1) dx ⟨old, Nat.le_succ _, ⟨_, _, hx, rfl, rfl, rfl, rfl, rfl⟩, Nat.le_trans (Nat.le_trans (Nat.le_succ _) (Nat.le_succ _)) z, dne, hns⟩⟩
end
end F_line
namespace F_tree
def jA (p1 p2 : Pos) : Arguments := { posonlyargs := [], args := [{ arg := "self", annotation := none, pos := p1 }, { arg := "tree", annotation := none, pos := p2 }], vararg := none, kwonlyargs := [], kw_defaults := [], kwarg := none, defaults := [] }
def jB (q1 q2 q3 q4 q5 q6 q7 q8 q9 q10 : Pos) : List Stmt := [.Expr (.Call (.Attribute (.Call (.Name "super" q1) [] [] q2) "__init__" q3) [.Name "tree" q4] [] q5) q6, .Assign [.Attribute (.Name "self" q7) "tree" q8] (.Name "tree" q9) q10]
def jS : Scope := { kind := .function, names := [(PySem.Str.ofString "self", .local), (PySem.Str.ofString "tree", .local), (PySem.Str.ofString "__class__", .free), (PySem.Str.ofString "super", .globalImplicit)], isGenerator := false, isCoroutine := false, more := [] }
/-- the own __init__ at fJ of the class C (a ClsTxt) over D -/
structure OwnTxt (prog : Program) (K : Frag) (qn : Str) (D fI C fJ : Addr) : Prop where
  fn : ∃ (oc : Value) (od : Option Addr) (kV doc pm : Value) (an : Option Addr) (cda cc : Addr) (ct : Value) (osl : Array (Option Value)) (p1 p2 q1 q2 q3 q4 q5 q6 q7 q8 q9 q10 : Pos) (ccl cl : Value) (cdd cld : Option Addr) (vs : Array Value) (ccs csl : Array (Option Value)) (file : Str) (tf : Tok),
    K.lookup fJ = some ⟨oc, od, .func (ksFn "__init__" qn (jA p1 p2) (jB q1 q2 q3 q4 q5 q6 q7 q8 q9 q10) jS .none kV doc pm an (.ref cda) ct cc), osl⟩ ∧ codeIn K (.ref cda) qn = true ∧
    K.lookup cda = some ⟨ccl, cdd, .fields vs, ccs⟩ ∧ vs[2]? = some (.str file tf) ∧ ((prog.main.file : Str) == file) = true ∧ K.lookup cc = some ⟨cl, cld, .cell (some (.ref C)), csl⟩ ∧ (q3.endLine == q5.line) = true
  noN : findIn K (.ref C) "tree" = some none
  al : alongIn K "__init__" (.ref D :: veTail) = some (some (.ref fI))
  tI : typeIn K (.ref fI) = some (.type "function")
  fI : fnIn K fI = true
def mF (v : Value) : Str → Option Value := fun y => if y = "tree" then some v else if y = "given" then some v else none
section
variable {prog : Program} {w : World} {A : Around} {E : Value → Shared → Prop} {R : Result → Shared → Prop} {s : Shared} {K : Frag} {mg mb : Str → Option Value} {C D fI fJ : Addr} {qn : Str}
theorem own_initA {nm : Str} (Bt : BaseTxt prog K mg D fI) (T : ClsTxt K mg nm D fJ C) (J : OwnTxt prog K qn D fI C fJ) {x t0 : Addr} {v : Value} {args : Args} (ha : args = ⟨[.ref x, v], []⟩ ∨ args = ⟨[.ref x], [("tree", v)]⟩) (X : K.In s.heap) (hlim : s.heap.NoLimit) (G : s.heap.Ns mainGlobals mg) (GB : ∃ mb, s.heap.Ns builtinsNs mb ∧ ∀ x : Str, x ≠ "__name__" → mb x = bootBuiltins x)
    (hx : s.heap.get? x = some (excO C t0)) (hnx : K.lookup x = none) (hroom : A.depth + 3 < recursionLimit)
    (hq : ∀ h' tk dx t1, InitE s.heap h' x C dx t1 (mF v) → R (.ok (.ret .none)) { s with heap := h', toks := tk }) :
    codeAny (model prog w) A (.call (.ref fJ) args) R s := by
  obtain ⟨oc, od, kV, doc, pm, an, cda, cc, ct, osl, p1, p2, q1, q2, q3, q4, q5, q6, q7, q8, q9, q10, ccl, cl, cdd, cld, vs, ccs, csl, file, tf, ho, hcd, hcode, hvs, hfile, hcell, hline⟩ := J.fn
  obtain ⟨nm', q, N, bs, sn, sub, ab, col, dd, k0, k1, k2, k3, k5, hC⟩ := T.cls
  have hcl : clsIn K C = some { name := nm', bases := bs, mro := .ref C :: .ref D :: veTail, ns := N, qualname := q, hasDict := true, slotNames := sn, subclasses := sub, abstract := ab, collection := col, hasDel := false } := by unfold clsIn; rw [hC] <;> rfl
  obtain ⟨mb, hbn, hbm⟩ := GB
  obtain ⟨hp, g, d, t, os⟩ := s
  have hxC : x ≠ C := fun z => by rw [z, hC] at hnx; cases hnx
  refine ks_codeAny_call_defAt (fd := ksFn "__init__" qn (jA p1 p2) (jB q1 q2 q3 q4 q5 q6 q7 q8 q9 q10) jS .none kV doc pm an (.ref cda) ct cc) (body := jB q1 q2 q3 q4 q5 q6 q7 q8 q9 q10) (binds := [("self", .ref x), ("tree", v)])
    (by omega) (X _ _ ho) rfl hlim (codeRec_of X hcd) rfl (.of_eq (by rcases ha with rfl | rfl <;> rfl)) ?cell ?loc (fun h₁ hns₁ k₁ => ?_) rfl rfl rfl
  case cell =>
    intro y hy
    rcases List.mem_cons.mp hy with rfl | hy
    · exact fun z => by cases z
    rcases List.mem_cons.mp hy with rfl | hy
    · exact fun z => by cases z
    rcases List.mem_cons.mp hy with rfl | hy
    · exact fun z => by cases z
    rcases List.mem_cons.mp hy with rfl | hy
    · exact fun z => by cases z
    cases hy
  case loc =>
    intro y hy
    rcases List.mem_cons.mp hy with rfl | hy
    · rfl
    rcases List.mem_cons.mp hy with rfl | hy
    · rfl
    cases hy
  have X₁ : K.In h₁ := X.keeps k₁
  have hx₁ := k₁ _ _ hx
  have hxL : hp.objs.size ≠ x := Nat.ne_of_gt (Heap.lt_size hx)
  have hC₁ := X₁ _ _ hC
  show _root_.PySem.wpAt (model prog w) _ (.func (jB q1 q2 q3 q4 q5 q6 q7 q8 q9 q10) (ksEnv qn jS hp.objs.size fJ (.ref cda) cc)) (execs (jB q1 q2 q3 q4 q5 q6 q7 q8 q9 q10) (ksEnv qn jS hp.objs.size fJ (.ref cda) cc)) _ _ _
  refine ks_wpAt_execs_cons ?_
  refine ks_wpAt_Expr_any ?_
  refine ks_wpAt_MethodCall (pl := L2.plainOf (.Call (.Name "super" q1) [] [] q2) (ksEnv qn jS hp.objs.size fJ (.ref cda) cc)) ?_ (he_line hline)
  refine (ks_wpAt_super_base (env := ksEnv qn jS hp.objs.size fJ (.ref cda) cc) rfl rfl (by decide) rfl (X₁ _ _ ho) rfl rfl rfl (X₁ _ _ hcode) rfl hvs hfile Bt.top ?_)
  refine ks_loadName_global rfl rfl (loadGlobal_builtin (env := ksEnv qn jS hp.objs.size fJ (.ref cda) cc) (G.keeps k₁) Bt.mS (hbn.keeps k₁) ((hbm _ (by decide)).trans boot_super) ⟨rfl, ?_⟩)
  refine wpAny_loadName_free rfl rfl rfl ⟨_, X₁ _ _ hcell, rfl⟩ ?_
  refine wpAny_loadName_local (v := .ref x) rfl rfl hns₁ rfl ?_
  refine ks_wpAny_isType_cls hC₁ rfl ⟨rfl, ?_⟩
  refine ks_wpAny_call_super hC₁ rfl hx₁ rfl (fun c e => by cases e) (looks_mroIn X₁ (mro_self hcl rfl)) (fun h₂ hso k₂ => ?_)
  have X₂ : K.In h₂ := X₁.keeps k₂
  have hx₂ := k₂ _ _ hx₁
  obtain ⟨of, hof, hofc⟩ : ∃ of, h₂.get? fI = some of ∧ of.cls = .type "function" := by
    have ht' : (K.lookup fI).map (·.cls) = some (.type "function") := J.tI
    cases z : K.lookup fI with
    | none => rw [z] at ht'; cases ht'
    | some of => rw [z] at ht'; exact ⟨of, X₂ _ _ z, Option.some.inj ht'⟩
  refine ks_wpAny_getMethod_super hso (looks_opaque X₂ Bt.any) (l₀ := .ref C :: .ref D :: veTail) (fun A Q E s k q => wpAny_bind ((looks_clsIn X₂ hcl) A _ E s k (wpAny_pure q))) (drop_self _ _) X₂ J.al hof hofc hxC (by decide) ?_
  have k₃ : ∀ b o, h₂.get? b = some o → (h₂.push (methodObj (.ref fI) (.ref x))).get? b = some o := fun b o e => Heap.get?_push_of_some _ e
  have hu : (h₂.push (methodObj (.ref fI) (.ref x))).get? h₂.objs.size = some (methodObj (.ref fI) (.ref x)) := Heap.get?_push_at rfl rfl
  have hns₃ := (hns₁.keeps k₂).keeps k₃
  have X₃ : K.In (h₂.push (methodObj (.ref fI) (.ref x))) := X₂.keeps k₃
  refine callWith_N (q := h₂.objs.size) (self := .ref x) J.fI ?_
  refine spliced_more ?_
  refine ksLd (v := v) hns₃ rfl ?_
  refine spliced_none ⟨⟨hu, X₃⟩, ?_⟩
  have k03 : ∀ b o, hp.get? b = some o → (h₂.push (methodObj (.ref fI) (.ref x))).get? b = some o := fun b o e => k₃ b o (k₂ b o (k₁ b o e))
  refine wpAny_call (method_call hu ?_)
  refine we_initA (s := ⟨_, g, d, _, os⟩) Bt T (.inl rfl) X₃ (hlim.keeps k03) (G.keeps k03) ⟨mb, hbn.keeps k03, hbm⟩ (k03 _ _ hx) hnx ?_ fun h₄ tk₄ dx t1 ⟨k₄, hx₄, dn, dne, hns⟩ => ?_
  · show _ < recursionLimit
    first
      | (show A.depth + 1 < recursionLimit; omega)
      | (show A.depth + 2 < recursionLimit; omega)
      | (simp only [Around.deeper]; omega)
  have k04 : ∀ b o, b ≠ x → hp.get? b = some o → h₄.get? b = some o := fun b o hb e => k₄ b o hb (k03 b o e)
  have X₄ : K.In h₄ := kept_but X hnx k04
  have hns₄ : h₄.Ns hp.objs.size (fun y => List.lookup y [(PySem.Str.ofString "self", Value.ref x), (PySem.Str.ofString "tree", v)].reverse) := by
    obtain ⟨oL, es, ep, hL, r⟩ := hns₃
    exact ⟨oL, es, ep, k₄ _ _ hxL hL, r⟩
  -- self.count = count
  refine ks_wpAt_execs_cons (_root_.PySem.wpAt_of_wpAny (plainObj_wpAny_Assign_Attribute ?_))
  refine ksLd (v := v) hns₄ rfl (ksLd (v := .ref x) hns₄ rfl ?_)
  have hw : Within (fun y => if y = "given" then some v else none) ["given"] := Within.cons "given" v Within.nil
  obtain ⟨oD, esD, epD, hoD, hdD, _⟩ := hns.count hw
  refine set_plain X₄ (ox := { cls := .ref C, dict := some dx, data := .fields #[.ref t1, .none, .none, .none, .bool false, .none] }) (od := some oD) ⟨hx₄, rfl, rfl, hoD⟩ T.sa ?_
  refine PySem.OEX.osa_old X₄ hx₄ hns hw (by decide) hcl (refs_two C D) rfl J.noN (fun h₅ tk₅ k₅ hn₅ => ?_)
  have dbig : hp.objs.size ≤ dx := Nat.le_trans (by
    obtain ⟨oL, es, ep, hL, r⟩ := hns₃
    exact Nat.le_of_lt (Heap.lt_size hL)) dn
  refine _root_.PySem.wpAt_of_wpAny (wpAny_execs_nil (hq h₅ tk₅ dx t1 ⟨fun b o hb e => k₅ b o (Nat.ne_of_lt (Nat.lt_of_lt_of_le (Heap.lt_size e) dbig)) (k04 b o hb e), k₅ _ _ dne.symm hx₄, dbig, dne, hn₅⟩))
theorem own_madeA {nm : Str} (Bt : BaseTxt prog K mg D fI) (T : ClsTxt K mg nm D fJ C) (J : OwnTxt prog K qn D fI C fJ) {v : Value} {rest : List Value} {kw : List (Str × Value)} (ha : (rest = [v] ∧ kw = []) ∨ (rest = [] ∧ kw = [(("tree" : Str), v)])) (X : K.In s.heap) (hlim : s.heap.NoLimit) (G : s.heap.Ns mainGlobals mg) (GB : ∃ mb, s.heap.Ns builtinsNs mb ∧ ∀ x : Str, x ≠ "__name__" → mb x = bootBuiltins x) (hroom : A.depth + 4 < recursionLimit)
    (hq : ∀ h' tk e d, MadeE s.heap h' e C d (mF v) → R (.ok (.ret (.ref e))) { s with heap := h', toks := tk }) :
    codeAny (model prog w) A (.call (.ref C) ⟨rest, kw⟩) R s := by
  obtain ⟨nm', q, N, bs, sn, sub, ab, col, dd, k0, k1, k2, k3, k5, hC⟩ := T.cls
  obtain ⟨hp, g, dr, tk, os⟩ := s
  have k : ∀ b o, hp.get? b = some o → ((hp.push (kdv_tup rest)).push (excO C hp.objs.size)).get? b = some o := fun b o e => Heap.get?_push_of_some _ (Heap.get?_push_of_some _ e)
  have hget : ((hp.push (kdv_tup rest)).push (excO C hp.objs.size)).get? (hp.objs.size + 1) = some (excO C hp.objs.size) := by heap_get
  have hnx : K.lookup (hp.objs.size + 1) = none := by
    cases e : K.lookup (hp.objs.size + 1) with
    | none => rfl
    | some o =>
      have z : hp.get? (hp.objs.size + 1) = some o := X _ _ e
      exact absurd (Nat.lt_of_succ_lt (Heap.lt_size z)) (Nat.lt_irrefl _)
  refine call_own_kw F.excBase_ValueError (fun X => refsVE_contains X _ (refs D)) (X _ _ hC) (looks_findIn X T.iC) (fun self => bind_fn X self T.tI) (by rcases ha with ⟨rfl, _⟩ | ⟨rfl, _⟩ <;> exact Nat.le_trans (show _ ≤ 2 by simp) (by rw [sizeLine_eq]; decide)) ?_
  obtain ⟨mb, hb1, hb2⟩ := GB
  refine own_initA (s := ⟨(hp.push (kdv_tup rest)).push (excO C hp.objs.size), g, dr, tk, os⟩) Bt T J (v := v) (by rcases ha with ⟨rfl, rfl⟩ | ⟨rfl, rfl⟩ <;> first | exact .inl rfl | exact .inr rfl) (X.keeps k) (hlim.keeps k) (G.keeps k) ⟨mb, hb1.keeps k, hb2⟩ hget hnx ?_ fun h' tk' dx t1 ⟨k', hx, dn, dne, hns⟩ => ?_
  · show A.depth + 1 + 3 < recursionLimit
    omega
  · have old : ∀ b o, hp.get? b = some o → h'.get? b = some o := fun b o e => k' b o (Nat.ne_of_lt (Nat.lt_succ_of_lt (Heap.lt_size e))) (k b o e)
    have z : hp.objs.size + 1 + 1 ≤ dx := by
      first
        | (simpa only [Heap.size_push] using dn)
        | exact dn
        | (have q := dn; rw [Heap.size_push, Heap.size_push] at q; exact q)
    exact ⟨rfl, hq h' tk' (hp.objs.size + 1) dx ⟨old, Nat.le_succ _, ⟨_, _, hx, rfl, rfl, rfl, rfl, rfl⟩, Nat.le_trans (Nat.le_trans (Nat.le_succ _) (Nat.le_succ _)) z, dne, hns⟩⟩
end
end F_tree
namespace F_name
def jA (p1 p2 : Pos) : Arguments := { posonlyargs := [], args := [{ arg := "self", annotation := none, pos := p1 }, { arg := "name", annotation := none, pos := p2 }], vararg := none, kwonlyargs := [], kw_defaults := [], kwarg := none, defaults := [] }
def jB (q1 q2 q3 q4 q5 q6 q7 q8 q9 q10 : Pos) : List Stmt := [.Expr (.Call (.Attribute (.Call (.Name "super" q1) [] [] q2) "__init__" q3) [.Name "name" q4] [] q5) q6, .Assign [.Attribute (.Name "self" q7) "name" q8] (.Name "name" q9) q10]
def jS : Scope := { kind := .function, names := [(PySem.Str.ofString "self", .local), (PySem.Str.ofString "name", .local), (PySem.Str.ofString "__class__", .free), (PySem.Str.ofString "super", .globalImplicit)], isGenerator := false, isCoroutine := false, more := [] }
/-- the own __init__ at fJ of the class C (a ClsTxt) over D -/
structure OwnTxt (prog : Program) (K : Frag) (qn : Str) (D fI C fJ : Addr) : Prop where
  fn : ∃ (oc : Value) (od : Option Addr) (kV doc pm : Value) (an : Option Addr) (cda cc : Addr) (ct : Value) (osl : Array (Option Value)) (p1 p2 q1 q2 q3 q4 q5 q6 q7 q8 q9 q10 : Pos) (ccl cl : Value) (cdd cld : Option Addr) (vs : Array Value) (ccs csl : Array (Option Value)) (file : Str) (tf : Tok),
    K.lookup fJ = some ⟨oc, od, .func (ksFn "__init__" qn (jA p1 p2) (jB q1 q2 q3 q4 q5 q6 q7 q8 q9 q10) jS .none kV doc pm an (.ref cda) ct cc), osl⟩ ∧ codeIn K (.ref cda) qn = true ∧
    K.lookup cda = some ⟨ccl, cdd, .fields vs, ccs⟩ ∧ vs[2]? = some (.str file tf) ∧ ((prog.main.file : Str) == file) = true ∧ K.lookup cc = some ⟨cl, cld, .cell (some (.ref C)), csl⟩ ∧ (q3.endLine == q5.line) = true
  noN : findIn K (.ref C) "name" = some none
  al : alongIn K "__init__" (.ref D :: veTail) = some (some (.ref fI))
  tI : typeIn K (.ref fI) = some (.type "function")
  fI : fnIn K fI = true
def mF (v : Value) : Str → Option Value := fun y => if y = "name" then some v else if y = "given" then some v else none
section
variable {prog : Program} {w : World} {A : Around} {E : Value → Shared → Prop} {R : Result → Shared → Prop} {s : Shared} {K : Frag} {mg mb : Str → Option Value} {C D fI fJ : Addr} {qn : Str}
theorem own_initA {nm : Str} (Bt : BaseTxt prog K mg D fI) (T : ClsTxt K mg nm D fJ C) (J : OwnTxt prog K qn D fI C fJ) {x t0 : Addr} {v : Value} {args : Args} (ha : args = ⟨[.ref x, v], []⟩ ∨ args = ⟨[.ref x], [("name", v)]⟩) (X : K.In s.heap) (hlim : s.heap.NoLimit) (G : s.heap.Ns mainGlobals mg) (GB : ∃ mb, s.heap.Ns builtinsNs mb ∧ ∀ x : Str, x ≠ "__name__" → mb x = bootBuiltins x)
    (hx : s.heap.get? x = some (excO C t0)) (hnx : K.lookup x = none) (hroom : A.depth + 3 < recursionLimit)
    (hq : ∀ h' tk dx t1, InitE s.heap h' x C dx t1 (mF v) → R (.ok (.ret .none)) { s with heap := h', toks := tk }) :
    codeAny (model prog w) A (.call (.ref fJ) args) R s := by
  obtain ⟨oc, od, kV, doc, pm, an, cda, cc, ct, osl, p1, p2, q1, q2, q3, q4, q5, q6, q7, q8, q9, q10, ccl, cl, cdd, cld, vs, ccs, csl, file, tf, ho, hcd, hcode, hvs, hfile, hcell, hline⟩ := J.fn
  obtain ⟨nm', q, N, bs, sn, sub, ab, col, dd, k0, k1, k2, k3, k5, hC⟩ := T.cls
  have hcl : clsIn K C = some { name := nm', bases := bs, mro := .ref C :: .ref D :: veTail, ns := N, qualname := q, hasDict := true, slotNames := sn, subclasses := sub, abstract := ab, collection := col, hasDel := false } := by unfold clsIn; rw [hC] <;> rfl
  obtain ⟨mb, hbn, hbm⟩ := GB
  obtain ⟨hp, g, d, t, os⟩ := s
  have hxC : x ≠ C := fun z => by rw [z, hC] at hnx; cases hnx
  refine ks_codeAny_call_defAt (fd := ksFn "__init__" qn (jA p1 p2) (jB q1 q2 q3 q4 q5 q6 q7 q8 q9 q10) jS .none kV doc pm an (.ref cda) ct cc) (body := jB q1 q2 q3 q4 q5 q6 q7 q8 q9 q10) (binds := [("self", .ref x), ("name", v)])
    (by omega) (X _ _ ho) rfl hlim (codeRec_of X hcd) rfl (.of_eq (by rcases ha with rfl | rfl <;> rfl)) ?cell ?loc (fun h₁ hns₁ k₁ => ?_) rfl rfl rfl
  case cell =>
    intro y hy
    rcases List.mem_cons.mp hy with rfl | hy
    · exact fun z => by cases z
    rcases List.mem_cons.mp hy with rfl | hy
    · exact fun z => by cases z
    rcases List.mem_cons.mp hy with rfl | hy
    · exact fun z => by cases z
    rcases List.mem_cons.mp hy with rfl | hy
    · exact fun z => by cases z
    cases hy
  case loc =>
    intro y hy
    rcases List.mem_cons.mp hy with rfl | hy
    · rfl
    rcases List.mem_cons.mp hy with rfl | hy
    · rfl
    cases hy
  have X₁ : K.In h₁ := X.keeps k₁
  have hx₁ := k₁ _ _ hx
  have hxL : hp.objs.size ≠ x := Nat.ne_of_gt (Heap.lt_size hx)
  have hC₁ := X₁ _ _ hC
  show _root_.PySem.wpAt (model prog w) _ (.func (jB q1 q2 q3 q4 q5 q6 q7 q8 q9 q10) (ksEnv qn jS hp.objs.size fJ (.ref cda) cc)) (execs (jB q1 q2 q3 q4 q5 q6 q7 q8 q9 q10) (ksEnv qn jS hp.objs.size fJ (.ref cda) cc)) _ _ _
  refine ks_wpAt_execs_cons ?_
  refine ks_wpAt_Expr_any ?_
  refine ks_wpAt_MethodCall (pl := L2.plainOf (.Call (.Name "super" q1) [] [] q2) (ksEnv qn jS hp.objs.size fJ (.ref cda) cc)) ?_ (he_line hline)
  refine (ks_wpAt_super_base (env := ksEnv qn jS hp.objs.size fJ (.ref cda) cc) rfl rfl (by decide) rfl (X₁ _ _ ho) rfl rfl rfl (X₁ _ _ hcode) rfl hvs hfile Bt.top ?_)
  refine ks_loadName_global rfl rfl (loadGlobal_builtin (env := ksEnv qn jS hp.objs.size fJ (.ref cda) cc) (G.keeps k₁) Bt.mS (hbn.keeps k₁) ((hbm _ (by decide)).trans boot_super) ⟨rfl, ?_⟩)
  refine wpAny_loadName_free rfl rfl rfl ⟨_, X₁ _ _ hcell, rfl⟩ ?_
  refine wpAny_loadName_local (v := .ref x) rfl rfl hns₁ rfl ?_
  refine ks_wpAny_isType_cls hC₁ rfl ⟨rfl, ?_⟩
  refine ks_wpAny_call_super hC₁ rfl hx₁ rfl (fun c e => by cases e) (looks_mroIn X₁ (mro_self hcl rfl)) (fun h₂ hso k₂ => ?_)
  have X₂ : K.In h₂ := X₁.keeps k₂
  have hx₂ := k₂ _ _ hx₁
  obtain ⟨of, hof, hofc⟩ : ∃ of, h₂.get? fI = some of ∧ of.cls = .type "function" := by
    have ht' : (K.lookup fI).map (·.cls) = some (.type "function") := J.tI
    cases z : K.lookup fI with
    | none => rw [z] at ht'; cases ht'
    | some of => rw [z] at ht'; exact ⟨of, X₂ _ _ z, Option.some.inj ht'⟩
  refine ks_wpAny_getMethod_super hso (looks_opaque X₂ Bt.any) (l₀ := .ref C :: .ref D :: veTail) (fun A Q E s k q => wpAny_bind ((looks_clsIn X₂ hcl) A _ E s k (wpAny_pure q))) (drop_self _ _) X₂ J.al hof hofc hxC (by decide) ?_
  have k₃ : ∀ b o, h₂.get? b = some o → (h₂.push (methodObj (.ref fI) (.ref x))).get? b = some o := fun b o e => Heap.get?_push_of_some _ e
  have hu : (h₂.push (methodObj (.ref fI) (.ref x))).get? h₂.objs.size = some (methodObj (.ref fI) (.ref x)) := Heap.get?_push_at rfl rfl
  have hns₃ := (hns₁.keeps k₂).keeps k₃
  have X₃ : K.In (h₂.push (methodObj (.ref fI) (.ref x))) := X₂.keeps k₃
  refine callWith_N (q := h₂.objs.size) (self := .ref x) J.fI ?_
  refine spliced_more ?_
  refine ksLd (v := v) hns₃ rfl ?_
  refine spliced_none ⟨⟨hu, X₃⟩, ?_⟩
  have k03 : ∀ b o, hp.get? b = some o → (h₂.push (methodObj (.ref fI) (.ref x))).get? b = some o := fun b o e => k₃ b o (k₂ b o (k₁ b o e))
  refine wpAny_call (method_call hu ?_)
  refine we_initA (s := ⟨_, g, d, _, os⟩) Bt T (.inl rfl) X₃ (hlim.keeps k03) (G.keeps k03) ⟨mb, hbn.keeps k03, hbm⟩ (k03 _ _ hx) hnx ?_ fun h₄ tk₄ dx t1 ⟨k₄, hx₄, dn, dne, hns⟩ => ?_
  · show _ < recursionLimit
    first
      | (show A.depth + 1 < recursionLimit; omega)
      | (show A.depth + 2 < recursionLimit; omega)
      | (simp only [Around.deeper]; omega)
  have k04 : ∀ b o, b ≠ x → hp.get? b = some o → h₄.get? b = some o := fun b o hb e => k₄ b o hb (k03 b o e)
  have X₄ : K.In h₄ := kept_but X hnx k04
  have hns₄ : h₄.Ns hp.objs.size (fun y => List.lookup y [(PySem.Str.ofString "self", Value.ref x), (PySem.Str.ofString "name", v)].reverse) := by
    obtain ⟨oL, es, ep, hL, r⟩ := hns₃
    exact ⟨oL, es, ep, k₄ _ _ hxL hL, r⟩
  -- self.count = count
  refine ks_wpAt_execs_cons (_root_.PySem.wpAt_of_wpAny (plainObj_wpAny_Assign_Attribute ?_))
  refine ksLd (v := v) hns₄ rfl (ksLd (v := .ref x) hns₄ rfl ?_)
  have hw : Within (fun y => if y = "given" then some v else none) ["given"] := Within.cons "given" v Within.nil
  obtain ⟨oD, esD, epD, hoD, hdD, _⟩ := hns.count hw
  refine set_plain X₄ (ox := { cls := .ref C, dict := some dx, data := .fields #[.ref t1, .none, .none, .none, .bool false, .none] }) (od := some oD) ⟨hx₄, rfl, rfl, hoD⟩ T.sa ?_
  refine PySem.OEX.osa_old X₄ hx₄ hns hw (by decide) hcl (refs_two C D) rfl J.noN (fun h₅ tk₅ k₅ hn₅ => ?_)
  have dbig : hp.objs.size ≤ dx := Nat.le_trans (by
    obtain ⟨oL, es, ep, hL, r⟩ := hns₃
    exact Nat.le_of_lt (Heap.lt_size hL)) dn
  refine _root_.PySem.wpAt_of_wpAny (wpAny_execs_nil (hq h₅ tk₅ dx t1 ⟨fun b o hb e => k₅ b o (Nat.ne_of_lt (Nat.lt_of_lt_of_le (Heap.lt_size e) dbig)) (k04 b o hb e), k₅ _ _ dne.symm hx₄, dbig, dne, hn₅⟩))
theorem own_madeA {nm : Str} (Bt : BaseTxt prog K mg D fI) (T : ClsTxt K mg nm D fJ C) (J : OwnTxt prog K qn D fI C fJ) {v : Value} {rest : List Value} {kw : List (Str × Value)} (ha : (rest = [v] ∧ kw = []) ∨ (rest = [] ∧ kw = [(("name" : Str), v)])) (X : K.In s.heap) (hlim : s.heap.NoLimit) (G : s.heap.Ns mainGlobals mg) (GB : ∃ mb, s.heap.Ns builtinsNs mb ∧ ∀ x : Str, x ≠ "__name__" → mb x = bootBuiltins x) (hroom : A.depth + 4 < recursionLimit)
    (hq : ∀ h' tk e d, MadeE s.heap h' e C d (mF v) → R (.ok (.ret (.ref e))) { s with heap := h', toks := tk }) :
    codeAny (model prog w) A (.call (.ref C) ⟨rest, kw⟩) R s := by
  obtain ⟨nm', q, N, bs, sn, sub, ab, col, dd, k0, k1, k2, k3, k5, hC⟩ := T.cls
  obtain ⟨hp, g, dr, tk, os⟩ := s
  have k : ∀ b o, hp.get? b = some o → ((hp.push (kdv_tup rest)).push (excO C hp.objs.size)).get? b = some o := fun b o e => Heap.get?_push_of_some _ (Heap.get?_push_of_some _ e)
  have hget : ((hp.push (kdv_tup rest)).push (excO C hp.objs.size)).get? (hp.objs.size + 1) = some (excO C hp.objs.size) := by heap_get
  have hnx : K.lookup (hp.objs.size + 1) = none := by
    cases e : K.lookup (hp.objs.size + 1) with
    | none => rfl
    | some o =>
      have z : hp.get? (hp.objs.size + 1) = some o := X _ _ e
      exact absurd (Nat.lt_of_succ_lt (Heap.lt_size z)) (Nat.lt_irrefl _)
  refine call_own_kw F.excBase_ValueError (fun X => refsVE_contains X _ (refs D)) (X _ _ hC) (looks_findIn X T.iC) (fun self => bind_fn X self T.tI) (by rcases ha with ⟨rfl, _⟩ | ⟨rfl, _⟩ <;> exact Nat.le_trans (show _ ≤ 2 by simp) (by rw [sizeLine_eq]; decide)) ?_
  obtain ⟨mb, hb1, hb2⟩ := GB
  refine own_initA (s := ⟨(hp.push (kdv_tup rest)).push (excO C hp.objs.size), g, dr, tk, os⟩) Bt T J (v := v) (by rcases ha with ⟨rfl, rfl⟩ | ⟨rfl, rfl⟩ <;> first | exact .inl rfl | exact .inr rfl) (X.keeps k) (hlim.keeps k) (G.keeps k) ⟨mb, hb1.keeps k, hb2⟩ hget hnx ?_ fun h' tk' dx t1 ⟨k', hx, dn, dne, hns⟩ => ?_
  · show A.depth + 1 + 3 < recursionLimit
    omega
  · have old : ∀ b o, hp.get? b = some o → h'.get? b = some o := fun b o e => k' b o (Nat.ne_of_lt (Nat.lt_succ_of_lt (Heap.lt_size e))) (k b o e)
    have z : hp.objs.size + 1 + 1 ≤ dx := by
      first
        | (simpa only [Heap.size_push] using dn)
        | exact dn
        | (have q := dn; rw [Heap.size_push, Heap.size_push] at q; exact q)
    exact ⟨rfl, hq h' tk' (hp.objs.size + 1) dx ⟨old, Nat.le_succ _, ⟨_, _, hx, rfl, rfl, rfl, rfl, rfl⟩, Nat.le_trans (Nat.le_trans (Nat.le_succ _) (Nat.le_succ _)) z, dne, hns⟩⟩
end
end F_name
namespace F_two
def jA (p1 p2 p3 : Pos) : Arguments := { posonlyargs := [], args := [{ arg := "self", annotation := none, pos := p1 }, { arg := "one", annotation := none, pos := p2 }, { arg := "other", annotation := none, pos := p3 }], vararg := none, kwonlyargs := [], kw_defaults := [], kwarg := none, defaults := [] }
def jB (q1 q2 q3 q4 q5 q6 q7 q8 q9 q10 q11 q12 q13 q14 q15 q16 : Pos) : List Stmt := [.Expr (.Call (.Attribute (.Call (.Name "super" q1) [] [] q2) "__init__" q3) [.Tuple [.Name "one" q4, .Name "other" q11] 0 q12] [] q5) q6, .Assign [.Attribute (.Name "self" q7) "one" q8] (.Name "one" q9) q10, .Assign [.Attribute (.Name "self" q13) "other" q14] (.Name "other" q15) q16]
def jS : Scope := { kind := .function, names := [(PySem.Str.ofString "self", .local), (PySem.Str.ofString "one", .local), (PySem.Str.ofString "other", .local), (PySem.Str.ofString "__class__", .free), (PySem.Str.ofString "super", .globalImplicit)], isGenerator := false, isCoroutine := false, more := [] }
/-- the own __init__ at fJ of the class C (a ClsTxt) over D -/
structure OwnTxt (prog : Program) (K : Frag) (qn : Str) (D fI C fJ : Addr) : Prop where
  fn : ∃ (oc : Value) (od : Option Addr) (kV doc pm : Value) (an : Option Addr) (cda cc : Addr) (ct : Value) (osl : Array (Option Value)) (p1 p2 p3 q1 q2 q3 q4 q5 q6 q7 q8 q9 q10 q11 q12 q13 q14 q15 q16 : Pos) (ccl cl : Value) (cdd cld : Option Addr) (vs : Array Value) (ccs csl : Array (Option Value)) (file : Str) (tf : Tok),
    K.lookup fJ = some ⟨oc, od, .func (ksFn "__init__" qn (jA p1 p2 p3) (jB q1 q2 q3 q4 q5 q6 q7 q8 q9 q10 q11 q12 q13 q14 q15 q16) jS .none kV doc pm an (.ref cda) ct cc), osl⟩ ∧ codeIn K (.ref cda) qn = true ∧
    K.lookup cda = some ⟨ccl, cdd, .fields vs, ccs⟩ ∧ vs[2]? = some (.str file tf) ∧ ((prog.main.file : Str) == file) = true ∧ K.lookup cc = some ⟨cl, cld, .cell (some (.ref C)), csl⟩ ∧ (q3.endLine == q5.line) = true
  noN : findIn K (.ref C) "one" = some none
  noO : findIn K (.ref C) "other" = some none
  al : alongIn K "__init__" (.ref D :: veTail) = some (some (.ref fI))
  tI : typeIn K (.ref fI) = some (.type "function")
  fI : fnIn K fI = true
def mF (t : Addr) (v1 v2 : Value) : Str → Option Value := fun y => if y = "other" then some v2 else if y = "one" then some v1 else if y = "given" then some (.ref t) else none
section
variable {prog : Program} {w : World} {A : Around} {E : Value → Shared → Prop} {R : Result → Shared → Prop} {s : Shared} {K : Frag} {mg mb : Str → Option Value} {C D fI fJ : Addr} {qn : Str}
theorem own_initA {nm : Str} (Bt : BaseTxt prog K mg D fI) (T : ClsTxt K mg nm D fJ C) (J : OwnTxt prog K qn D fI C fJ) {x t0 : Addr} {v1 v2 : Value} {args : Args} (ha : args = ⟨[.ref x, v1, v2], []⟩ ∨ args = ⟨[.ref x], [("other", v2), ("one", v1)]⟩) (X : K.In s.heap) (hlim : s.heap.NoLimit) (G : s.heap.Ns mainGlobals mg) (GB : ∃ mb, s.heap.Ns builtinsNs mb ∧ ∀ x : Str, x ≠ "__name__" → mb x = bootBuiltins x)
    (hx : s.heap.get? x = some (excO C t0)) (hnx : K.lookup x = none) (hroom : A.depth + 3 < recursionLimit)
    (hq : ∀ h' tk dx t1 t, InitE s.heap h' x C dx t1 (mF t v1 v2) → R (.ok (.ret .none)) { s with heap := h', toks := tk }) :
    codeAny (model prog w) A (.call (.ref fJ) args) R s := by
  obtain ⟨oc, od, kV, doc, pm, an, cda, cc, ct, osl, p1, p2, p3, q1, q2, q3, q4, q5, q6, q7, q8, q9, q10, q11, q12, q13, q14, q15, q16, ccl, cl, cdd, cld, vs, ccs, csl, file, tf, ho, hcd, hcode, hvs, hfile, hcell, hline⟩ := J.fn
  obtain ⟨nm', q, N, bs, sn, sub, ab, col, dd, k0, k1, k2, k3, k5, hC⟩ := T.cls
  have hcl : clsIn K C = some { name := nm', bases := bs, mro := .ref C :: .ref D :: veTail, ns := N, qualname := q, hasDict := true, slotNames := sn, subclasses := sub, abstract := ab, collection := col, hasDel := false } := by unfold clsIn; rw [hC] <;> rfl
  obtain ⟨mb, hbn, hbm⟩ := GB
  obtain ⟨hp, g, d, t, os⟩ := s
  have hxC : x ≠ C := fun z => by rw [z, hC] at hnx; cases hnx
  refine ks_codeAny_call_defAt (fd := ksFn "__init__" qn (jA p1 p2 p3) (jB q1 q2 q3 q4 q5 q6 q7 q8 q9 q10 q11 q12 q13 q14 q15 q16) jS .none kV doc pm an (.ref cda) ct cc) (body := jB q1 q2 q3 q4 q5 q6 q7 q8 q9 q10 q11 q12 q13 q14 q15 q16) (binds := [("self", .ref x), ("one", v1), ("other", v2)])
    (by omega) (X _ _ ho) rfl hlim (codeRec_of X hcd) rfl (.of_eq (by rcases ha with rfl | rfl <;> rfl)) ?cell ?loc (fun h₁ hns₁ k₁ => ?_) rfl rfl rfl
  case cell =>
    intro y hy
    rcases List.mem_cons.mp hy with rfl | hy
    · exact fun z => by cases z
    rcases List.mem_cons.mp hy with rfl | hy
    · exact fun z => by cases z
    rcases List.mem_cons.mp hy with rfl | hy
    · exact fun z => by cases z
    rcases List.mem_cons.mp hy with rfl | hy
    · exact fun z => by cases z
    rcases List.mem_cons.mp hy with rfl | hy
    · exact fun z => by cases z
    cases hy
  case loc =>
    intro y hy
    rcases List.mem_cons.mp hy with rfl | hy
    · rfl
    rcases List.mem_cons.mp hy with rfl | hy
    · rfl
    rcases List.mem_cons.mp hy with rfl | hy
    · rfl
    cases hy
  have X₁ : K.In h₁ := X.keeps k₁
  have hx₁ := k₁ _ _ hx
  have hxL : hp.objs.size ≠ x := Nat.ne_of_gt (Heap.lt_size hx)
  have hC₁ := X₁ _ _ hC
  show _root_.PySem.wpAt (model prog w) _ (.func (jB q1 q2 q3 q4 q5 q6 q7 q8 q9 q10 q11 q12 q13 q14 q15 q16) (ksEnv qn jS hp.objs.size fJ (.ref cda) cc)) (execs (jB q1 q2 q3 q4 q5 q6 q7 q8 q9 q10 q11 q12 q13 q14 q15 q16) (ksEnv qn jS hp.objs.size fJ (.ref cda) cc)) _ _ _
  refine ks_wpAt_execs_cons ?_
  refine ks_wpAt_Expr_any ?_
  refine ks_wpAt_MethodCall (pl := L2.plainOf (.Call (.Name "super" q1) [] [] q2) (ksEnv qn jS hp.objs.size fJ (.ref cda) cc)) ?_ (he_lineT hline)
  refine (ks_wpAt_super_base (env := ksEnv qn jS hp.objs.size fJ (.ref cda) cc) rfl rfl (by decide) rfl (X₁ _ _ ho) rfl rfl rfl (X₁ _ _ hcode) rfl hvs hfile Bt.top ?_)
  refine ks_loadName_global rfl rfl (loadGlobal_builtin (env := ksEnv qn jS hp.objs.size fJ (.ref cda) cc) (G.keeps k₁) Bt.mS (hbn.keeps k₁) ((hbm _ (by decide)).trans boot_super) ⟨rfl, ?_⟩)
  refine wpAny_loadName_free rfl rfl rfl ⟨_, X₁ _ _ hcell, rfl⟩ ?_
  refine wpAny_loadName_local (v := .ref x) rfl rfl hns₁ rfl ?_
  refine ks_wpAny_isType_cls hC₁ rfl ⟨rfl, ?_⟩
  refine ks_wpAny_call_super hC₁ rfl hx₁ rfl (fun c e => by cases e) (looks_mroIn X₁ (mro_self hcl rfl)) (fun h₂ hso k₂ => ?_)
  have X₂ : K.In h₂ := X₁.keeps k₂
  have hx₂ := k₂ _ _ hx₁
  obtain ⟨of, hof, hofc⟩ : ∃ of, h₂.get? fI = some of ∧ of.cls = .type "function" := by
    have ht' : (K.lookup fI).map (·.cls) = some (.type "function") := J.tI
    cases z : K.lookup fI with
    | none => rw [z] at ht'; cases ht'
    | some of => rw [z] at ht'; exact ⟨of, X₂ _ _ z, Option.some.inj ht'⟩
  refine ks_wpAny_getMethod_super hso (looks_opaque X₂ Bt.any) (l₀ := .ref C :: .ref D :: veTail) (fun A Q E s k q => wpAny_bind ((looks_clsIn X₂ hcl) A _ E s k (wpAny_pure q))) (drop_self _ _) X₂ J.al hof hofc hxC (by decide) ?_
  have k₃ : ∀ b o, h₂.get? b = some o → (h₂.push (methodObj (.ref fI) (.ref x))).get? b = some o := fun b o e => Heap.get?_push_of_some _ e
  have hu : (h₂.push (methodObj (.ref fI) (.ref x))).get? h₂.objs.size = some (methodObj (.ref fI) (.ref x)) := Heap.get?_push_at rfl rfl
  have hns₃ := (hns₁.keeps k₂).keeps k₃
  have X₃ : K.In (h₂.push (methodObj (.ref fI) (.ref x))) := X₂.keeps k₃
  refine callWith_N (q := h₂.objs.size) (self := .ref x) J.fI ?_
  refine spliced_more ?_
  refine wpAny_Tuple_spliced ?_
  refine spliced_more ?_
  refine ksLd (v := v1) hns₃ rfl ?_
  refine spliced_more ?_
  refine ksLd (v := v2) hns₃ rfl ?_
  refine spliced_none ⟨by show 2 ≤ sizeLine; rw [sizeLine_eq]; decide, ?_⟩
  have k₆ : ∀ b o, (h₂.push (methodObj (.ref fI) (.ref x))).get? b = some o → ((h₂.push (methodObj (.ref fI) (.ref x))).push (kdv_tup [v1, v2])).get? b = some o := fun b o e => Heap.get?_push_of_some _ e
  have X₆ := X₃.keeps k₆
  have hns₆ := hns₃.keeps k₆
  refine spliced_none ⟨⟨k₆ _ _ hu, X₆⟩, ?_⟩
  have k06 : ∀ b o, hp.get? b = some o → ((h₂.push (methodObj (.ref fI) (.ref x))).push (kdv_tup [v1, v2])).get? b = some o := fun b o e => k₆ b o (k₃ b o (k₂ b o (k₁ b o e)))
  refine wpAny_call (method_call (k₆ _ _ hu) ?_)
  refine we_initA (s := ⟨_, g, d, _, os⟩) Bt T (v := .ref (h₂.push (methodObj (.ref fI) (.ref x))).objs.size) (.inl rfl) X₆ (hlim.keeps k06) (G.keeps k06) ⟨mb, hbn.keeps k06, hbm⟩ (k06 _ _ hx) hnx ?_ fun h₄ tk₄ dx t1 ⟨k₄, hx₄, dn, dne, hns⟩ => ?_
  · show _ < recursionLimit
    first
      | (show A.depth + 1 < recursionLimit; omega)
      | (show A.depth + 2 < recursionLimit; omega)
      | (simp only [Around.deeper]; omega)
  have k04 : ∀ b o, b ≠ x → hp.get? b = some o → h₄.get? b = some o := fun b o hb e => k₄ b o hb (k06 b o e)
  have X₄ : K.In h₄ := kept_but X hnx k04
  have hns₄ : h₄.Ns hp.objs.size (fun y => List.lookup y [(PySem.Str.ofString "self", Value.ref x), (PySem.Str.ofString "one", v1), (PySem.Str.ofString "other", v2)].reverse) := by
    obtain ⟨oL, es, ep, hL, r⟩ := hns₆
    exact ⟨oL, es, ep, k₄ _ _ hxL hL, r⟩
  have dbig : hp.objs.size ≤ dx := Nat.le_trans (by
    obtain ⟨oL, es, ep, hL, r⟩ := hns₆
    exact Nat.le_of_lt (Heap.lt_size hL)) dn
  have ndx : hp.objs.size ≠ dx := fun z => by
    obtain ⟨oL, es, ep, hL, r⟩ := hns₆
    have := Heap.lt_size hL
    have q := Nat.lt_of_lt_of_le this dn
    exact absurd z (Nat.ne_of_lt q)
  -- self.one = one
  refine ks_wpAt_execs_cons (_root_.PySem.wpAt_of_wpAny (plainObj_wpAny_Assign_Attribute ?_))
  refine ksLd (v := v1) hns₄ rfl (ksLd (v := .ref x) hns₄ rfl ?_)
  have hw : Within (mG (.ref (h₂.push (methodObj (.ref fI) (.ref x))).objs.size)) ["given"] := Within.cons "given" _ Within.nil
  obtain ⟨oD, esD, epD, hoD, hdD, _⟩ := hns.count hw
  refine set_plain X₄ (ox := { cls := .ref C, dict := some dx, data := .fields #[.ref t1, .none, .none, .none, .bool false, .none] }) (od := some oD) ⟨hx₄, rfl, rfl, hoD⟩ T.sa ?_
  refine PySem.OEX.osa_old X₄ hx₄ hns hw (by decide) hcl (refs_two C D) rfl J.noN (fun h₅ tk₅ k₅ hn₅ => ?_)
  have hnl : ∀ b o, hp.get? b = some o → b ≠ dx := fun b o e => Nat.ne_of_lt (Nat.lt_of_lt_of_le (Heap.lt_size e) dbig)
  have k05 : ∀ b o, b ≠ x → hp.get? b = some o → h₅.get? b = some o := fun b o hb e => k₅ b o (hnl b o e) (k04 b o hb e)
  have X₅ : K.In h₅ := kept_but X hnx k05
  have hx₅ := k₅ _ _ dne.symm hx₄
  have hns₅ : h₅.Ns hp.objs.size (fun y => List.lookup y [(PySem.Str.ofString "self", Value.ref x), (PySem.Str.ofString "one", v1), (PySem.Str.ofString "other", v2)].reverse) := by
    obtain ⟨oL, es, ep, hL, r⟩ := hns₄
    exact ⟨oL, es, ep, k₅ _ _ ndx hL, r⟩
  -- self.other = other
  refine ks_wpAt_execs_cons (_root_.PySem.wpAt_of_wpAny (plainObj_wpAny_Assign_Attribute ?_))
  refine ksLd (v := v2) hns₅ rfl (ksLd (v := .ref x) hns₅ rfl ?_)
  have hw2 : Within (fun y => if y = "one" then some v1 else mG (.ref (h₂.push (methodObj (.ref fI) (.ref x))).objs.size) y) ["one", "given"] := Within.cons "one" _ hw
  obtain ⟨oE, esE, epE, hoE, hdE, _⟩ := hn₅.count hw2
  refine set_plain X₅ (ox := { cls := .ref C, dict := some dx, data := .fields #[.ref t1, .none, .none, .none, .bool false, .none] }) (od := some oE) ⟨hx₅, rfl, rfl, hoE⟩ T.sa ?_
  refine PySem.OEX.osa_old X₅ hx₅ hn₅ hw2 (by decide) hcl (refs_two C D) rfl J.noO (fun h₇ tk₇ k₇ hn₇ => ?_)
  refine _root_.PySem.wpAt_of_wpAny (wpAny_execs_nil (hq h₇ tk₇ dx t1 _ ⟨fun b o hb e => k₇ b o (hnl b o e) (k05 b o hb e), k₇ _ _ dne.symm hx₅, dbig, dne, hn₇⟩))
theorem own_madeA {nm : Str} (Bt : BaseTxt prog K mg D fI) (T : ClsTxt K mg nm D fJ C) (J : OwnTxt prog K qn D fI C fJ) {v1 v2 : Value} {rest : List Value} {kw : List (Str × Value)} (ha : (rest = [v1, v2] ∧ kw = []) ∨ (rest = [] ∧ kw = [(("other" : Str), v2), (("one" : Str), v1)])) (X : K.In s.heap) (hlim : s.heap.NoLimit) (G : s.heap.Ns mainGlobals mg) (GB : ∃ mb, s.heap.Ns builtinsNs mb ∧ ∀ x : Str, x ≠ "__name__" → mb x = bootBuiltins x) (hroom : A.depth + 4 < recursionLimit)
    (hq : ∀ h' tk e d t, MadeE s.heap h' e C d (mF t v1 v2) → R (.ok (.ret (.ref e))) { s with heap := h', toks := tk }) :
    codeAny (model prog w) A (.call (.ref C) ⟨rest, kw⟩) R s := by
  obtain ⟨nm', q, N, bs, sn, sub, ab, col, dd, k0, k1, k2, k3, k5, hC⟩ := T.cls
  obtain ⟨hp, g, dr, tk, os⟩ := s
  have k : ∀ b o, hp.get? b = some o → ((hp.push (kdv_tup rest)).push (excO C hp.objs.size)).get? b = some o := fun b o e => Heap.get?_push_of_some _ (Heap.get?_push_of_some _ e)
  have hget : ((hp.push (kdv_tup rest)).push (excO C hp.objs.size)).get? (hp.objs.size + 1) = some (excO C hp.objs.size) := by heap_get
  have hnx : K.lookup (hp.objs.size + 1) = none := by
    cases e : K.lookup (hp.objs.size + 1) with
    | none => rfl
    | some o =>
      have z : hp.get? (hp.objs.size + 1) = some o := X _ _ e
      exact absurd (Nat.lt_of_succ_lt (Heap.lt_size z)) (Nat.lt_irrefl _)
  refine call_own_kw F.excBase_ValueError (fun X => refsVE_contains X _ (refs D)) (X _ _ hC) (looks_findIn X T.iC) (fun self => bind_fn X self T.tI) (by rcases ha with ⟨rfl, _⟩ | ⟨rfl, _⟩ <;> exact Nat.le_trans (show _ ≤ 2 by simp) (by rw [sizeLine_eq]; decide)) ?_
  obtain ⟨mb, hb1, hb2⟩ := GB
  refine own_initA (s := ⟨(hp.push (kdv_tup rest)).push (excO C hp.objs.size), g, dr, tk, os⟩) Bt T J (v1 := v1) (v2 := v2) (by rcases ha with ⟨rfl, rfl⟩ | ⟨rfl, rfl⟩ <;> first | exact .inl rfl | exact .inr rfl) (X.keeps k) (hlim.keeps k) (G.keeps k) ⟨mb, hb1.keeps k, hb2⟩ hget hnx ?_ fun h' tk' dx t1 t ⟨k', hx, dn, dne, hns⟩ => ?_
  · show A.depth + 1 + 3 < recursionLimit
    omega
  · have old : ∀ b o, hp.get? b = some o → h'.get? b = some o := fun b o e => k' b o (Nat.ne_of_lt (Nat.lt_succ_of_lt (Heap.lt_size e))) (k b o e)
    have z : hp.objs.size + 1 + 1 ≤ dx := by
      first
        | (simpa only [Heap.size_push] using dn)
        | exact dn
        | (have q := dn; rw [Heap.size_push, Heap.size_push] at q; exact q)
    exact ⟨rfl, hq h' tk' (hp.objs.size + 1) dx t ⟨old, Nat.le_succ _, ⟨_, _, hx, rfl, rfl, rfl, rfl, rfl⟩, Nat.le_trans (Nat.le_trans (Nat.le_succ _) (Nat.le_succ _)) z, dne, hns⟩⟩
end
end F_two
namespace F_none
def jA (p1 : Pos) : Arguments := { posonlyargs := [], args := [{ arg := "self", annotation := none, pos := p1 }], vararg := none, kwonlyargs := [], kw_defaults := [], kwarg := none, defaults := [] }
def jB (q7 q8 q9 q10 : Pos) : List Stmt := [.Assign [.Attribute (.Name "self" q7) "given" q8] (.Constant .none 0 q9) q10]
def jS : Scope := { kind := .function, names := [(PySem.Str.ofString "self", .local)], isGenerator := false, isCoroutine := false, more := [] }
structure OwnTxt (prog : Program) (K : Frag) (qn : Str) (C fJ : Addr) : Prop where
  fn : ∃ (oc : Value) (od : Option Addr) (kV doc pm : Value) (an : Option Addr) (cda : Addr) (ct : Value) (osl : Array (Option Value)) (p1 q7 q8 q9 q10 : Pos),
    K.lookup fJ = some ⟨oc, od, .func (fnOf "__init__" qn (jA p1) (jB q7 q8 q9 q10) jS .none kV doc pm an (.ref cda) ct), osl⟩ ∧ codeIn K (.ref cda) qn = true
section
variable {prog : Program} {w : World} {A : Around} {E : Value → Shared → Prop} {R : Result → Shared → Prop} {s : Shared} {K : Frag} {mg mb : Str → Option Value} {C D fI fJ : Addr} {qn : Str}
theorem own_initA {nm : Str} (T : ClsTxt K mg nm D fJ C) (J : OwnTxt prog K qn C fJ) {x t0 : Addr} {args : Args} (ha : args = ⟨[.ref x], []⟩) (X : K.In s.heap) (hlim : s.heap.NoLimit)
    (hx : s.heap.get? x = some (excO C t0)) (hnx : K.lookup x = none) (hroom : A.depth + 3 < recursionLimit)
    (hq : ∀ h' tk dx t1, InitE s.heap h' x C dx t1 (mG .none) → R (.ok (.ret .none)) { s with heap := h', toks := tk }) :
    codeAny (model prog w) A (.call (.ref fJ) args) R s := by
  subst ha
  obtain ⟨oc, od, kV, doc, pm, an, cda, ct, osl, p1, q7, q8, q9, q10, ho, hcd⟩ := J.fn
  obtain ⟨nm', q, N, bs, sn, sub, ab, col, dd, k0, k1, k2, k3, k5, hC⟩ := T.cls
  have hcl : clsIn K C = some { name := nm', bases := bs, mro := .ref C :: .ref D :: veTail, ns := N, qualname := q, hasDict := true, slotNames := sn, subclasses := sub, abstract := ab, collection := col, hasDel := false } := by unfold clsIn; rw [hC] <;> rfl
  obtain ⟨hp, g, d, t, os⟩ := s
  have hroom' : A.depth < recursionLimit := by omega
  refine ks_codeAny_call_defAt (fd := fnOf "__init__" qn (jA p1) (jB q7 q8 q9 q10) jS .none kV doc pm an (.ref cda) ct) (body := jB q7 q8 q9 q10) (binds := [("self", .ref x)])
    hroom' (X _ _ ho) rfl hlim (codeRec_of X hcd) rfl (.of_eq rfl) ?cell ?loc (fun h₁ hns₁ k₁ => ?_) rfl rfl rfl
  case cell =>
    intro y hy
    rcases List.mem_cons.mp hy with rfl | hy
    · exact fun z => by cases z
    cases hy
  case loc =>
    intro y hy
    rcases List.mem_cons.mp hy with rfl | hy
    · rfl
    cases hy
  have X₁ : K.In h₁ := X.keeps k₁
  have hx₁ := k₁ _ _ hx
  refine ks_wpAt_execs_cons (_root_.PySem.wpAt_of_wpAny (plainObj_wpAny_Assign_Attribute ?_))
  refine wpAny_Constant_none (wpAny_Name (wpAny_loadName_local (v := .ref x) rfl rfl hns₁ rfl ?_) (by decide))
  refine set_plain X₁ (ox := excO C t0) (od := none) ⟨hx₁, rfl, rfl, trivial⟩ T.sa ?_
  refine exc_osa X₁ hx₁ hcl (refs_two C D) rfl T.noN (fun h₅ tk₅ dx k₅ dn dne hx₅ hn₅ => ?_)
  refine _root_.PySem.wpAt_of_wpAny (wpAny_execs_nil (hq h₅ tk₅ dx t0 ⟨fun b o hb e => k₅ b o hb (k₁ b o e), hx₅, Nat.le_trans ?_ dn, dne, hn₅⟩))
  obtain ⟨oL, es, ep, hL, r⟩ := hns₁
  exact Nat.le_of_lt (Heap.lt_size hL)
theorem own_madeA {nm : Str} (T : ClsTxt K mg nm D fJ C) (J : OwnTxt prog K qn C fJ) {rest : List Value} {kw : List (Str × Value)} (ha : rest = [] ∧ kw = []) (X : K.In s.heap) (hlim : s.heap.NoLimit) (G : s.heap.Ns mainGlobals mg) (GB : ∃ mb, s.heap.Ns builtinsNs mb ∧ ∀ x : Str, x ≠ "__name__" → mb x = bootBuiltins x) (hroom : A.depth + 4 < recursionLimit)
    (hq : ∀ h' tk e d, MadeE s.heap h' e C d (mG .none) → R (.ok (.ret (.ref e))) { s with heap := h', toks := tk }) :
    codeAny (model prog w) A (.call (.ref C) ⟨rest, kw⟩) R s := by
  obtain ⟨nm', q, N, bs, sn, sub, ab, col, dd, k0, k1, k2, k3, k5, hC⟩ := T.cls
  obtain ⟨hp, g, dr, tk, os⟩ := s
  have k : ∀ b o, hp.get? b = some o → ((hp.push (kdv_tup rest)).push (excO C hp.objs.size)).get? b = some o := fun b o e => Heap.get?_push_of_some _ (Heap.get?_push_of_some _ e)
  have hget : ((hp.push (kdv_tup rest)).push (excO C hp.objs.size)).get? (hp.objs.size + 1) = some (excO C hp.objs.size) := by heap_get
  have hnx : K.lookup (hp.objs.size + 1) = none := by
    cases e : K.lookup (hp.objs.size + 1) with
    | none => rfl
    | some o =>
      have z : hp.get? (hp.objs.size + 1) = some o := X _ _ e
      exact absurd (Nat.lt_of_succ_lt (Heap.lt_size z)) (Nat.lt_irrefl _)
  refine call_own_kw F.excBase_ValueError (fun X => refsVE_contains X _ (refs D)) (X _ _ hC) (looks_findIn X T.iC) (fun self => bind_fn X self T.tI) (by obtain ⟨rfl, _⟩ := ha; exact Nat.zero_le _) ?_
  obtain ⟨mb, hb1, hb2⟩ := GB
  refine own_initA (s := ⟨(hp.push (kdv_tup rest)).push (excO C hp.objs.size), g, dr, tk, os⟩) T J  (by obtain ⟨rfl, rfl⟩ := ha; rfl) (X.keeps k) (hlim.keeps k) hget hnx ?_ fun h' tk' dx t1 ⟨k', hx, dn, dne, hns⟩ => ?_
  · show A.depth + 1 + 3 < recursionLimit
    omega
  · have old : ∀ b o, hp.get? b = some o → h'.get? b = some o := fun b o e => k' b o (Nat.ne_of_lt (Nat.lt_succ_of_lt (Heap.lt_size e))) (k b o e)
    have z : hp.objs.size + 1 + 1 ≤ dx := by
      first
        | (simpa only [Heap.size_push] using dn)
        | exact dn
        | (have q := dn; rw [Heap.size_push, Heap.size_push] at q; exact q)
    exact ⟨rfl, hq h' tk' (hp.objs.size + 1) dx ⟨old, Nat.le_succ _, ⟨_, _, hx, rfl, rfl, rfl, rfl, rfl⟩, Nat.le_trans (Nat.le_trans (Nat.le_succ _) (Nat.le_succ _)) z, dne, hns⟩⟩
end
end F_none
end WrX
end PySem

end
section
set_option Elab.async false
set_option linter.all false
set_option maxRecDepth 100000
set_option maxHeartbeats 2000000
/-! EwL: own exceptions as values: made, read, asked for their class; raised in every form; a caught one handed to a def. -/
namespace L2
open PySem PySem.Spec PyProof.Rows PySem.WrX
def erO (C d a : Addr) : HO := .ext fun h => ∃ (oe : Obj) (vs : Array Value), h.get? a = some oe ∧ oe.cls = .ref C ∧ oe.dict = some d ∧ oe.data = .fields vs
/-- what is known of a tracked exception of the class at C, its dict at d -/
def ErP (φ : Heap → Prop) (C d a : Addr) : Prop := ∀ h, φ h → ∃ (oe : Obj) (vs : Array Value), h.get? a = some oe ∧ oe.cls = .ref C ∧ oe.dict = some d ∧ oe.data = .fields vs
abbrev FLs := List V → List (Str × V) → Prop
/-- the class at C can be called so; the fields that come -/
def MadeOk (prog : Program) (w : World) (K : PySem.W.Frag) (mg : Str → Option Value) (C : Addr) (mk : List Value → Args) (n : Nat) (fl : FLs) : Prop := ∀ {A : Around} {R : Result → Shared → Prop} {s : Shared} {vs : List V} {us : List Value}, Vals vs us → us.length = n →
  K.In s.heap → s.heap.NoLimit → s.heap.Ns mainGlobals mg → (∃ mb, s.heap.Ns builtinsNs mb ∧ ∀ x : Str, x ≠ "__name__" → mb x = bootBuiltins x) → A.depth + 4 < recursionLimit →
  (∀ h' tk e d m fs, MadeE s.heap h' e C d m → fl vs fs → (∀ f, RelO (fs.lookup f) (m f)) → R (.ok (.ret (.ref e))) { s with heap := h', toks := tk }) → codeAny (model prog w) A (.call (.ref C) (mk us)) R s
def flG1 : FLs := fun vs fs => ∃ v, vs = [v] ∧ fs = [(("given" : Str), v)]
def flO1 (f : Str) : FLs := fun vs fs => ∃ v, vs = [v] ∧ fs = [(f, v), (("given" : Str), v)]
def flU2 : FLs := fun vs fs => ∃ v1 v2 t, vs = [v1, v2] ∧ fs = [(("other" : Str), v2), (("one" : Str), v1), (("given" : Str), .ref t)]
def flU2k : FLs := fun vs fs => ∃ v1 v2 t, vs = [v2, v1] ∧ fs = [(("other" : Str), v2), (("one" : Str), v1), (("given" : Str), .ref t)]
def flN0 : FLs := fun vs fs => vs = [] ∧ fs = [(("given" : Str), .non)]
def mkP (us : List Value) : Args := ⟨us, []⟩
def mkK (ks : List Str) (us : List Value) : Args := ⟨[], ks.zip us⟩
theorem relO_put' {f : Str} {y : V} {u : Value} {fs : List (Str × V)} {mA : Str → Option Value} (ry : RelV y u) (r : ∀ g, RelO (fs.lookup g) (mA g)) (g : Str) : RelO (((f, y) :: fs).lookup g) (if g = f then some u else mA g) := by
  by_cases h : g = f
  · subst h
    rw [if_pos rfl, List.lookup_cons, beq_self_eq_true]
    exact ry
  · rw [if_neg h, List.lookup_cons, show (g == f) = false by simpa using h]
    exact r g
theorem relO_nil (g : Str) : RelO (([] : List (Str × V)).lookup g) none := trivial
theorem relO_g {y : V} {u : Value} (ry : RelV y u) : ∀ f, RelO (List.lookup f [(("given" : Str), y)]) (mG u f) := relO_put' ry relO_nil
section
variable {prog : Program} {w : World} {K : PySem.W.Frag} {mg : Str → Option Value} {C D fI fJ : Addr} {nm qn : Str}
theorem valsO1 {vs : List V} {us : List Value} (h : Vals vs us) (n : us.length = 1) : ∃ v u, vs = [v] ∧ us = [u] ∧ RelV v u := by
  cases h with
  | nil => cases n
  | @cons v u vs us r h =>
    cases h with
    | nil => exact ⟨v, u, rfl, rfl, r⟩
    | cons _ _ => simp at n
theorem valsO2 {vs : List V} {us : List Value} (h : Vals vs us) (n : us.length = 2) : ∃ v1 v2 u1 u2, vs = [v1, v2] ∧ us = [u1, u2] ∧ RelV v1 u1 ∧ RelV v2 u2 := by
  cases h with
  | nil => cases n
  | @cons v u vs us r h =>
    obtain ⟨v2, u2, rfl, rfl, r2⟩ := valsO1 h (by simpa using n)
    exact ⟨v, v2, u, u2, rfl, rfl, r, r2⟩
theorem valsO0 {vs : List V} {us : List Value} (h : Vals vs us) (n : us.length = 0) : vs = [] ∧ us = [] := by
  cases h with
  | nil => exact ⟨rfl, rfl⟩
  | cons _ _ => cases n
theorem made_W (Bt : BaseTxt prog K mg D fI) (T : ClsTxt K mg nm D fI C) : MadeOk prog w K mg C mkP 1 flG1 := fun hv hn X hl G GB hr hq => by
  obtain ⟨v, u, rfl, rfl, r⟩ := valsO1 hv hn
  exact we_madeA Bt T (v := u) (.inl ⟨rfl, rfl⟩) X hl G GB hr fun h' tk e d M => hq h' tk e d _ _ M ⟨v, rfl, rfl⟩ (relO_g r)
theorem made_Wk (Bt : BaseTxt prog K mg D fI) (T : ClsTxt K mg nm D fI C) : MadeOk prog w K mg C (mkK ["given"]) 1 flG1 := fun hv hn X hl G GB hr hq => by
  obtain ⟨v, u, rfl, rfl, r⟩ := valsO1 hv hn
  exact we_madeA Bt T (v := u) (.inr ⟨rfl, rfl⟩) X hl G GB hr fun h' tk e d M => hq h' tk e d _ _ M ⟨v, rfl, rfl⟩ (relO_g r)
theorem made_count (Bt : BaseTxt prog K mg D fI) (T : ClsTxt K mg nm D fJ C) (J : F_count.OwnTxt prog K qn D fI C fJ) : MadeOk prog w K mg C mkP 1 (flO1 "count") := fun hv hn X hl G GB hr hq => by
  obtain ⟨v, u, rfl, rfl, r⟩ := valsO1 hv hn
  exact F_count.own_madeA Bt T J (v := u) (.inl ⟨rfl, rfl⟩) X hl G GB hr fun h' tk e d M => hq h' tk e d _ _ M ⟨v, rfl, rfl⟩ (relO_put' r (relO_g r))
theorem made_countk (Bt : BaseTxt prog K mg D fI) (T : ClsTxt K mg nm D fJ C) (J : F_count.OwnTxt prog K qn D fI C fJ) : MadeOk prog w K mg C (mkK ["count"]) 1 (flO1 "count") := fun hv hn X hl G GB hr hq => by
  obtain ⟨v, u, rfl, rfl, r⟩ := valsO1 hv hn
  exact F_count.own_madeA Bt T J (v := u) (.inr ⟨rfl, rfl⟩) X hl G GB hr fun h' tk e d M => hq h' tk e d _ _ M ⟨v, rfl, rfl⟩ (relO_put' r (relO_g r))
theorem made_line (Bt : BaseTxt prog K mg D fI) (T : ClsTxt K mg nm D fJ C) (J : F_line.OwnTxt prog K qn D fI C fJ) : MadeOk prog w K mg C mkP 1 (flO1 "line") := fun hv hn X hl G GB hr hq => by
  obtain ⟨v, u, rfl, rfl, r⟩ := valsO1 hv hn
  exact F_line.own_madeA Bt T J (v := u) (.inl ⟨rfl, rfl⟩) X hl G GB hr fun h' tk e d M => hq h' tk e d _ _ M ⟨v, rfl, rfl⟩ (relO_put' r (relO_g r))
theorem made_linek (Bt : BaseTxt prog K mg D fI) (T : ClsTxt K mg nm D fJ C) (J : F_line.OwnTxt prog K qn D fI C fJ) : MadeOk prog w K mg C (mkK ["line"]) 1 (flO1 "line") := fun hv hn X hl G GB hr hq => by
  obtain ⟨v, u, rfl, rfl, r⟩ := valsO1 hv hn
  exact F_line.own_madeA Bt T J (v := u) (.inr ⟨rfl, rfl⟩) X hl G GB hr fun h' tk e d M => hq h' tk e d _ _ M ⟨v, rfl, rfl⟩ (relO_put' r (relO_g r))
theorem made_tree (Bt : BaseTxt prog K mg D fI) (T : ClsTxt K mg nm D fJ C) (J : F_tree.OwnTxt prog K qn D fI C fJ) : MadeOk prog w K mg C mkP 1 (flO1 "tree") := fun hv hn X hl G GB hr hq => by
  obtain ⟨v, u, rfl, rfl, r⟩ := valsO1 hv hn
  exact F_tree.own_madeA Bt T J (v := u) (.inl ⟨rfl, rfl⟩) X hl G GB hr fun h' tk e d M => hq h' tk e d _ _ M ⟨v, rfl, rfl⟩ (relO_put' r (relO_g r))
theorem made_treek (Bt : BaseTxt prog K mg D fI) (T : ClsTxt K mg nm D fJ C) (J : F_tree.OwnTxt prog K qn D fI C fJ) : MadeOk prog w K mg C (mkK ["tree"]) 1 (flO1 "tree") := fun hv hn X hl G GB hr hq => by
  obtain ⟨v, u, rfl, rfl, r⟩ := valsO1 hv hn
  exact F_tree.own_madeA Bt T J (v := u) (.inr ⟨rfl, rfl⟩) X hl G GB hr fun h' tk e d M => hq h' tk e d _ _ M ⟨v, rfl, rfl⟩ (relO_put' r (relO_g r))
theorem made_name (Bt : BaseTxt prog K mg D fI) (T : ClsTxt K mg nm D fJ C) (J : F_name.OwnTxt prog K qn D fI C fJ) : MadeOk prog w K mg C mkP 1 (flO1 "name") := fun hv hn X hl G GB hr hq => by
  obtain ⟨v, u, rfl, rfl, r⟩ := valsO1 hv hn
  exact F_name.own_madeA Bt T J (v := u) (.inl ⟨rfl, rfl⟩) X hl G GB hr fun h' tk e d M => hq h' tk e d _ _ M ⟨v, rfl, rfl⟩ (relO_put' r (relO_g r))
theorem made_namek (Bt : BaseTxt prog K mg D fI) (T : ClsTxt K mg nm D fJ C) (J : F_name.OwnTxt prog K qn D fI C fJ) : MadeOk prog w K mg C (mkK ["name"]) 1 (flO1 "name") := fun hv hn X hl G GB hr hq => by
  obtain ⟨v, u, rfl, rfl, r⟩ := valsO1 hv hn
  exact F_name.own_madeA Bt T J (v := u) (.inr ⟨rfl, rfl⟩) X hl G GB hr fun h' tk e d M => hq h' tk e d _ _ M ⟨v, rfl, rfl⟩ (relO_put' r (relO_g r))
theorem made_two (Bt : BaseTxt prog K mg D fI) (T : ClsTxt K mg nm D fJ C) (J : F_two.OwnTxt prog K qn D fI C fJ) : MadeOk prog w K mg C mkP 2 flU2 := fun hv hn X hl G GB hr hq => by
  obtain ⟨v1, v2, u1, u2, rfl, rfl, r1, r2⟩ := valsO2 hv hn
  exact F_two.own_madeA Bt T J (v1 := u1) (v2 := u2) (.inl ⟨rfl, rfl⟩) X hl G GB hr fun h' tk e d t M => hq h' tk e d _ _ M ⟨v1, v2, t, rfl, rfl⟩ (relO_put' r2 (relO_put' r1 (relO_g rfl)))
theorem made_twok (Bt : BaseTxt prog K mg D fI) (T : ClsTxt K mg nm D fJ C) (J : F_two.OwnTxt prog K qn D fI C fJ) : MadeOk prog w K mg C (mkK ["other", "one"]) 2 flU2k := fun hv hn X hl G GB hr hq => by
  obtain ⟨v2, v1, u2, u1, rfl, rfl, r2, r1⟩ := valsO2 hv hn
  exact F_two.own_madeA Bt T J (v1 := u1) (v2 := u2) (.inr ⟨rfl, rfl⟩) X hl G GB hr fun h' tk e d t M => hq h' tk e d _ _ M ⟨v1, v2, t, rfl, rfl⟩ (relO_put' r2 (relO_put' r1 (relO_g rfl)))
theorem made_none (T : ClsTxt K mg nm D fJ C) (J : F_none.OwnTxt prog K qn C fJ) : MadeOk prog w K mg C mkP 0 flN0 := fun hv hn X hl G GB hr hq => by
  obtain ⟨rfl, rfl⟩ := valsO0 hv hn
  exact F_none.own_madeA T J ⟨rfl, rfl⟩ X hl G GB hr fun h' tk e d M => hq h' tk e d _ _ M ⟨rfl, rfl⟩ (relO_g rfl)
end
section
variable {X : Cx} {C : Addr} {nm : Str} {fl : FLs} {n : Nat} {pins : List (Addr × Obj)} {σ : St} {H1 : Hp}
/-- the made one's dict is tracked, the exception itself set aside -/
theorem made_laid {hp h' : Heap} {g : Array GenState} {dr : Drawn} {tk tk' : Nat} {os : OsState} {e d : Addr} {m : Str → Option Value} {fs : List (Str × V)} (I1 : Inv X pins σ H1 ⟨hp, g, dr, tk, os⟩) (M : MadeE hp h' e C d m) (r : ∀ f, RelO (fs.lookup f) (m f)) :
    ∃ G' : Heap, (∀ b, b ≠ e → G'.get? b = h'.get? b) ∧ G'.get? e = none ∧ Inv X pins σ (upd H1 d (.xd fs)) ⟨G', g, dr, tk', os⟩ := by
  have hns := M.ns
  obtain ⟨G', g1, g2⟩ := restrict h' fun b => decide (b ≠ e)
  have gk : ∀ b, b ≠ e → G'.get? b = h'.get? b := fun b hb => g1 b (decide_eq_true hb)
  have ge : G'.get? e = none := g2 e (by simp)
  have old : ∀ b o, hp.get? b = some o → G'.get? b = some o := fun b o q => (gk b (Nat.ne_of_lt (Nat.lt_of_lt_of_le (Heap.lt_size q) M.new))).trans (M.keep b o q)
  have ob : ObjOk X.prog X.w (upd H1 d (.xd fs)) G' d (.xd fs) := ⟨_, hns.at (fun o q => (gk d M.dne).trans q), r⟩
  exact ⟨G', gk, ge, I1.laid (t' := tk') old M.dbig ob⟩
def tMkR (C : Addr) (n : Nat) (fl : FLs) (ta : TA) : St → Hp → XK → Prop := fun σ H Q => ta σ H fun vs H1 => vs.length = n ∧ ∀ fs, fl vs fs → ∀ d, H1 d = none → Q (.ref C) (some d) (upd H1 d (.xd fs))
def tMkV (C : Addr) (n : Nat) (fl : FLs) (ta : TA) : TE := fun σ H Q => ta σ H fun vs H1 => vs.length = n ∧ ∀ fs, fl vs fs → ∀ e d, H1 e = none → H1 d = none → d ≠ e → Q (.ref e) (upd (upd H1 d (.xd fs)) e (erO C d e))
/-- the call itself -/
theorem made_call {A : Around} {mk : List Value → Args} {s : Shared} {vs : List V} {us : List Value} {Q : VK} (G : MadeOk X.prog X.w X.K X.mg C mk n fl) (I1 : Inv X pins σ H1 s) (r : Vals vs us) (hn : vs.length = n) (hd : A.depth + 4 < recursionLimit)
    (q : ∀ fs, fl vs fs → ∀ e d, H1 e = none → H1 d = none → d ≠ e → Q (.ref e) (upd (upd H1 d (.xd fs)) e (erO C d e))) : codeAny (model X.prog X.w) A (.call (.ref C) (mk us)) (fun r s' => match r with | .ok (.ret u) => EP X pins σ Q u s' | _ => False) s := by
  have hlim := I1.nolimit
  obtain ⟨mb, hb1, hb2⟩ := I1.mod.blt
  have hG := I1.mod.glob.keeps I1.bk
  have hB := hb1.keeps I1.bk
  have hK := I1.kIn
  obtain ⟨hp, g, dr, tk, os⟩ := s
  refine G r (by rw [← r.length]; exact hn) hK hlim hG ⟨mb, hB, hb2⟩ hd fun h' tk' e d m fs M hf ro => ?_
  obtain ⟨G', gk, ge, J⟩ := made_laid (tk' := tk') I1 M ro
  obtain ⟨oe, fv, hoe, hc, hd', hdat, h1, h2⟩ := M.obj
  have ned : H1 d = none := I1.hok.fresh M.dbig
  have nee : H1 e = none := I1.hok.fresh M.new
  have nee' : upd H1 d (.xd fs) e = none := by rw [upd_ne (Ne.symm M.dne)]; exact nee
  have ob : ObjOk X.prog X.w (upd (upd H1 d (.xd fs)) e (erO C d e)) h' e (erO C d e) :=
    ⟨⟨oe, fv, hoe, hc, hd', hdat⟩, ⟨oe, hoe⟩, fun _ _ ⟨o, v, q, r⟩ k => ⟨o, v, k o q, r⟩⟩
  have J2 : Inv X pins σ (upd (upd H1 d (.xd fs)) e (erO C d e)) ⟨h', g, dr, tk', os⟩ := J.laidN (h' := h') (t' := tk') (fun b u q => by
    by_cases hb : b = e
    · have q' : G'.get? b = some u := q
      rw [hb, ge] at q'; cases q'
    · exact (gk b hb).symm.trans q) ge nee' ob
  exact ⟨.ref e, _, J2, rfl, q fs hf e d nee ned M.dne⟩
/-- how the call's end is read -/
theorem made_end {A : Around} {E : Value → Shared → Prop} {args : Args} {s : Shared} {Q : Value → Shared → Prop} (h : codeAny (model X.prog X.w) A (.call (.ref C) args) (fun r s' => match r with | .ok (.ret u) => Q u s' | _ => False) s) :
    wpAny (model X.prog X.w) A (call (.ref C) args.pos args.kw) Q E s := wpAny_call (codeAny_mono h fun r s' z => by
  cases r with
  | error e => exact z.elim
  | ok fl => cases fl <;> first | exact z | exact z.elim)
variable {a : Expr} {es : List Expr} {ta : TA} {p pos : Pos} {k : Nat} {kws : List Keyword} {ks : List Str}
/-- C(e, ..) -/
theorem pe_mkV (G : MadeOk X.prog X.w X.K X.mg C mkP n fl) (gC : X.mg nm = some (.ref C)) (kC : PySem.W.keepIn X.K (.ref C) = true) (hr : Room k X.A) (ha : PA X (a :: es) ta) (hg : Gl X nm := by rfl) (hdb : (nm == ("__debug__" : Str)) = false := by decide)
    (he : starEach (a :: es) X.env = (false, eval a X.env) :: starEach es X.env := by rfl) (hpl : (backTo pos (starEach es X.env)).any (·.1) = false := by rfl) :
    PE X (.Call (.Name nm p) (a :: es) [] pos) (tMkV C n fl ta) := by
  refine ⟨fun pins s σ H Q I h => ?_⟩
  refine wpAny_Call_Name_kw (ld_glob I hg gC ?_ hdb)
  refine PySem.W.callWith_K (h₀ := X.base) I.ok.mod.kin kC (thn (ha.run pos pins s σ H _ I h) fun us s1 hh => ?_) he hpl
  obtain ⟨vs, H1, I1, r1, hn, q1⟩ := hh
  exact ⟨I1.kIn, made_end (args := mkP us) (made_call G I1 r1 hn (by have := hr.dp; omega) q1)⟩
/-- C(f = e, ..) -/
theorem pe_mkVk (G : MadeOk X.prog X.w X.K X.mg C (mkK ks) n fl) (gC : X.mg nm = some (.ref C)) (kC : PySem.W.keepIn X.K (.ref C) = true) (hr : Room k X.A) (hkw : PK X kws ta) (hg : Gl X nm := by rfl) (hdb : (nm == ("__debug__" : Str)) = false := by decide)
    (hall : (backToKw pos (keywordEach kws X.env)).all (·.1.isSome) = true := by rfl) (hks : (backToKw pos (keywordEach kws X.env)).filterMap (·.1) = ks := by rfl)
    (hpl : ((backTo pos (starEach [] X.env)).any (·.1) || (backToKw pos (keywordEach kws X.env)).any (·.1.isNone)) = false := by rfl) :
    PE X (.Call (.Name nm p) [] kws pos) (tMkV C n fl ta) := by
  refine ⟨fun pins s σ H Q I h => ?_⟩
  refine wpAny_Call_Name_kw (ld_glob I hg gC ?_ hdb)
  refine PySem.W.callWith_KW0 (h₀ := X.base) I.ok.mod.kin kC hall (thn (hkw.run pos pins s σ H _ I h) fun ws s2 ⟨zs, H2, I2, rz, hn, q2⟩ => ⟨I2.kIn, ?_⟩) hpl
  rw [hks]
  exact made_end (args := mkK ks ws) (made_call G I2 rz hn (by have := hr.dp; omega) q2)
/-- C() -/
theorem pe_mkV0 (G : MadeOk X.prog X.w X.K X.mg C mkP 0 fl) (gC : X.mg nm = some (.ref C)) (kC : PySem.W.keepIn X.K (.ref C) = true) (hr : Room k X.A) (hg : Gl X nm := by rfl) (hdb : (nm == ("__debug__" : Str)) = false := by decide) :
    PE X (.Call (.Name nm p) [] [] pos) (tMkV C 0 fl tNil) := by
  refine ⟨fun pins s σ H Q I h => ?_⟩
  refine wpAny_Call_Name_kw (ld_glob I hg gC ?_ hdb)
  exact PySem.W.callWith_K0 I.kIn kC (made_end (args := mkP []) (made_call (vs := []) G I .nil rfl (by have := hr.dp; omega) h.2))
/-- .. to be raised -/
theorem made_mk {A : Around} {mk : List Value → Args} {s : Shared} {vs : List V} {us : List Value} {Q : XK} (T : Raises X (.ref C)) (G : MadeOk X.prog X.w X.K X.mg C mk n fl) (I1 : Inv X pins σ H1 s) (r : Vals vs us) (hn : vs.length = n) (hd : A.depth + 4 < recursionLimit)
    (q : ∀ fs, fl vs fs → ∀ d, H1 d = none → Q (.ref C) (some d) (upd H1 d (.xd fs))) : codeAny (model X.prog X.w) A (.call (.ref C) (mk us)) (fun r s' => match r with | .ok (.ret u) => L2N.MkP X pins σ Q u s' | _ => False) s := by
  have hlim := I1.nolimit
  obtain ⟨mb, hb1, hb2⟩ := I1.mod.blt
  have hG := I1.mod.glob.keeps I1.bk
  have hB := hb1.keeps I1.bk
  have hK := I1.kIn
  obtain ⟨hp, g, dr, tk, os⟩ := s
  refine G r (by rw [← r.length]; exact hn) hK hlim hG ⟨mb, hB, hb2⟩ hd fun h' tk' e d m fs M hf ro => ?_
  obtain ⟨G', gk, ge, J⟩ := made_laid (tk' := tk') I1 M ro
  obtain ⟨oe, fv, hoe, hc, hd', hdat, h1, h2⟩ := M.obj
  refine ⟨e, oe, fv, ⟨G', g, dr, tk', os⟩, _, .ref C, some d, rfl, J, fun b o q => ?_, ge, hoe, ⟨hc, hd', fun vs' e' => ?_⟩, hdat, h1, ?_, rfl, I1.bare, T, q fs hf d (I1.hok.fresh M.dbig)⟩
  · by_cases hb : b = e
    · have q' : G'.get? b = some o := q
      rw [hb, ge] at q'; cases q'
    · exact (gk b hb).symm.trans q
  · rw [hdat] at e'
    cases e'
    exact h2
  · rw [upd_ne (Ne.symm M.dne)]
    exact I1.hok.fresh M.new
theorem pmk_mkR (T : Raises X (.ref C)) (G : MadeOk X.prog X.w X.K X.mg C mkP n fl) (gC : X.mg nm = some (.ref C)) (kC : PySem.W.keepIn X.K (.ref C) = true) (hr : Room k X.A) (ha : PA X (a :: es) ta) (hg : Gl X nm := by rfl) (hdb : (nm == ("__debug__" : Str)) = false := by decide)
    (he : starEach (a :: es) X.env = (false, eval a X.env) :: starEach es X.env := by rfl) (hpl : (backTo pos (starEach es X.env)).any (·.1) = false := by rfl) :
    L2N.PMk X (.Call (.Name nm p) (a :: es) [] pos) (tMkR C n fl ta) := by
  intro pins s σ H Q I h
  refine wpAny_Call_Name_kw (ld_glob I hg gC ?_ hdb)
  refine PySem.W.callWith_K (h₀ := X.base) I.ok.mod.kin kC (thn (ha.run pos pins s σ H _ I h) fun us s1 hh => ?_) he hpl
  obtain ⟨vs, H1, I1, r1, hn, q1⟩ := hh
  exact ⟨I1.kIn, made_end (args := mkP us) (made_mk T G I1 r1 hn (by have := hr.dp; omega) q1)⟩
theorem pmk_mkR0 (T : Raises X (.ref C)) (G : MadeOk X.prog X.w X.K X.mg C mkP 0 fl) (gC : X.mg nm = some (.ref C)) (kC : PySem.W.keepIn X.K (.ref C) = true) (hr : Room k X.A) (hg : Gl X nm := by rfl) (hdb : (nm == ("__debug__" : Str)) = false := by decide) :
    L2N.PMk X (.Call (.Name nm p) [] [] pos) (tMkR C 0 fl tNil) := by
  intro pins s σ H Q I h
  refine wpAny_Call_Name_kw (ld_glob I hg gC ?_ hdb)
  exact PySem.W.callWith_K0 I.kIn kC (made_end (args := mkP []) (made_mk (vs := []) T G I .nil rfl (by have := hr.dp; omega) h.2))
end
/-! ### an exception that is tracked: read, asked for its class -/
/-- of the class at C with these fields -/
def ErAt (H : Hp) (a C d : Addr) (fs : List (Str × V)) : Prop := (∃ φ, H a = some (.ext φ) ∧ ErP φ C d a) ∧ H d = some (.xd fs)
/-- what isinstance asks of the class at C -/
structure KiC (K : PySem.W.Frag) (C : Addr) : Prop where
  cl : (PySem.W.clsIn K C).isSome = true
  ga : PySem.W.findIn K (.ref C) "__getattribute__" = some (some (.builtin "BaseException.__getattribute__"))
  gg : PySem.W.findIn K (.ref C) "__getattr__" = some none
  sb : PySem.W.subIn K (.ref C) (.type "BaseException") = some true
  ca : PySem.W.findIn K (.ref C) "__class__" = some (some (.builtin "object.__class__"))
  sp : PySem.W.specialIn K (.builtin "object.__class__") "__get__" = some (some (.builtin "getset_descriptor.__get__"))
  tk : PySem.W.takesIn K (.builtin "object.__class__") = some true
  ob : PySem.W.mroIn K C (.type "object") = some true
section
variable {X : Cx} {pins : List (Addr × Obj)} {σ : St} {H : Hp} {s : Shared} {a C d : Addr} {fs : List (Str × V)}
theorem ErAt.inst (I : Inv X pins σ H s) (h : ErAt H a C d fs) : ∃ (oe : Obj) (od : Obj) (mA : Str → Option Value), PySem.W.InstAt s.heap a oe C (some od) ∧ s.heap.Ns1 d mA ∧ s.heap.get? d = some od ∧ ∀ f, RelO (fs.lookup f) (mA f) := by
  obtain ⟨⟨φ, h1, h2⟩, h3⟩ := h
  obtain ⟨hφ, _, _⟩ := I.hok a _ h1
  obtain ⟨oe, vs, ho, hc, hd, hdat⟩ := h2 _ hφ
  obtain ⟨mA, hns, hr⟩ := (show ObjOk X.prog X.w H s.heap d (.xd fs) from I.hok d _ h3)
  obtain ⟨od, hod, hl⟩ := lookIn_ns hns
  exact ⟨oe, od, mA, ⟨ho, hc, by unfold PySem.W.notCls; rw [hdat] <;> rfl, by rw [hd]; exact hod⟩, hns, hod, hr⟩
def rIsX (K : PySem.W.Frag) : List V → Hp → VK → Prop := fun xs H Q => ∃ (a C d : Addr) (fs : List (Str × V)) (c : V) (u : Value) (b : Bool), xs = [.ref a, c] ∧ ClsV c u ∧ ErAt H a C d fs ∧ KiC K C ∧ PySem.W.kitOne K (.ref C) u = some b ∧ Q (.bl b) H
theorem call_isX : CallR X (.builtin "isinstance") (rIsX X.K) := by
  intro pins s σ H xs us Q I r h
  obtain ⟨a, C, d, fs, c, u, b, rfl, k, ea, kc, e, q⟩ := h
  obtain ⟨u1, u2, rfl, r1, r2⟩ := vals2 r
  have e2 := k.eq r2
  subst e2
  cases (show u1 = Value.ref a from r1)
  obtain ⟨oe, od, mA, hi, _, _, _⟩ := ea.inst I
  exact PySem.W.kia_one (PySem.W.kitx_exc kc.cl kc.ga kc.gg kc.sb kc.ca kc.sp kc.tk kc.ob) I.kIn hi e (fun z => nomatch z) fun tk => ⟨.bl b, H, I.tok tk, rfl, q⟩
/-- error.f -/
def tXa (K : PySem.W.Frag) (f : Str) (te : TE) : TE := fun σ H Q => te σ H fun x H1 => ∃ (a C d : Addr) (fs : List (Str × V)) (v : V), x = .ref a ∧ ErAt H1 a C d fs ∧ XfC K C ∧ PySem.W.findIn K (.ref C) f = some none ∧ fs.lookup f = some v ∧ Q v H1
theorem pe_xa {e : Expr} {te : TE} {pos : Pos} {n : Str} (he : PE X e te) (hb : attributeBase e n X.env (eval e X.env) = eval e X.env := by rfl) : PE X (.Attribute e n pos) (tXa X.K n te) := by
  refine ⟨fun pins s σ H Q I h => ?_⟩
  refine attr_of hb (thn (he.run pins s σ H _ I h) fun u s1 hh => ?_)
  obtain ⟨x, H1, I1, rx, a, C, d, fs, v, ex, ea, T, hno, l, q⟩ := hh
  subst ex
  obtain rfl : u = Value.ref a := rx
  obtain ⟨oe, od, mA, J, hns, hod, hr⟩ := ea.inst I1
  obtain ⟨u, hu, ru⟩ := RelO.some_of (v := v) (o := mA n) (by rw [← l]; exact hr n)
  obtain ⟨od', ho', hl'⟩ := lookIn_ns hns
  rw [hod] at ho'
  cases ho'
  exact HandSPX.exc_get I1.kIn J T.ga T.gg T.exC (PySem.W.findObj_own T.hdC hno rfl (by rw [hl', hu])) (handed_of ru) ⟨v, H1, I1.tok _, ru, q⟩
end
end L2

end
section
set_option Elab.async false
set_option linter.all false
set_option maxRecDepth 100000
set_option maxHeartbeats 2000000
/-! EwH: a list comprehension, a def called, where an exception is handled. -/
namespace L2
open PySem PySem.Spec PyProof.Rows L2H Ew
/-- a comprehension's block; what is pinned stays pinned -/
abbrev Cx.blkH (X : Cx) (s : Shared) (H : Hp) (scope : Scope) (cenv : Env) (fp : List Addr) : Cx := { X.blk s H scope cenv fp with pn := X.pn }
section
variable {X : Cx} {pins : List (Addr × Obj)} {σ : St} {H : Hp} {s : Shared}
theorem Cx.Ok.blkH {s : Shared} {H : Hp} {scope : Scope} {ce : Env} {fp : List Addr} (ok : (X.blk s H scope ce fp).Ok) : (X.blkH s H scope ce fp).Ok :=
  ⟨ok.mod, ok.kind, ok.glob, ok.blt, ok.above, ok.inj, ok.has, ok.cab, ok.hd, ok.frames, ok.stk, ok.exf, ok.bs, ok.bsz, ok.noex, ok.exfs, ok.funs, ok.frf⟩
/-- the block's start -/
theorem blockH {scope : Scope} {own : List (Str × Nat)} {fp : List Addr} (I : Inv X pins σ H s) (ok : BlkOk X.N X.env.scope scope own) (hN : X.N.Nodup) (hfp : ∀ b ∈ fp, FpOk X pins H b ∧ b < s.heap.objs.size) :
    Inv (X.blkH s H scope (compEnvC scope (cellsFrom (s.heap.objs.size + 1) scope.names (cloFrom X.env.cells scope.names [])) s.heap.objs.size X.env) fp) [] (wipe σ (own.map (·.2))) H { s with heap := pushCells (s.heap.push { cls := .type "dict", data := .dict #[] }) scope.names } := by
  have J := block_start I ok hN hfp
  refine ⟨J.ok.blkH, J.os, J.bare, J.base, J.loc, J.cell, J.free, J.freeC, fun p hp => ?_, J.hok, J.len⟩
  have hp' : p ∈ X.pn ++ pins := List.mem_append_left _ (by simpa using (show p ∈ X.pn ++ ([] : List (Addr × Obj)) from hp))
  obtain ⟨p1, p2, p3, p4, p5⟩ := I.pin p hp'
  refine ⟨pushCells_keeps _ _ _ _ (Heap.get?_push_of_some _ p1), p2, Nat.ne_of_lt (Heap.lt_size p1), fun z => ?_, p5⟩
  rcases List.mem_cons.mp (I.stkSub p.1 z) with z | z
  · exact p3 z
  · exact p4 z
theorem HotC.blk {s : Shared} {H : Hp} {scope : Scope} {ce : Env} {fp : List Addr} (h : HotC X) : HotC (X.blkH s H scope ce fp) := h
/-- [e for t in it if ..] -/
theorem pe_lcH {elt tg iter : Expr} {ifs : List Expr} {scope : Scope} {own : List (Str × Nat)} {pos : Pos} {wi : TI} {g : TG} {tt : TT} {te : TE} (hc : HotC X) (hN : X.N.Nodup) (hi : PIH X tg iter wi) (ok : BlkOk X.N X.env.scope scope own)
    (hg : ∀ (s : Shared) (H : Hp) (C : Addr) (cl : List (Str × Addr)) (fp : List Addr), PG (X.blkH s H scope (compEnvC scope cl C X.env) fp) tg g) (ht : ∀ (s : Shared) (H : Hp) (C : Addr) (cl : List (Str × Addr)) (fp : List Addr), PTs (X.blkH s H scope (compEnvC scope cl C X.env) fp) ifs tt)
    (he : ∀ (s : Shared) (H : Hp) (C : Addr) (cl : List (Str × Addr)) (fp : List Addr), PE (X.blkH s H scope (compEnvC scope cl C X.env) fp) elt te) (hs : ∀ x, foldedSetIterable iter X.env x = pure x := by intro _; rfl) :
    PE X (.ListComp elt [⟨tg, iter, ifs, 0⟩] scope pos) (tLc wi g tt te (own.map (·.2))) := by
  refine ⟨fun pins s σ H Q I h => ?_⟩
  rw [eval_ListComp]
  have clos : ∀ y ∈ scope.names, y.2 = .free → ∃ c, X.env.cells.lookup y.1 = some c := fun y hy e => (ok.free y hy e).elim (fun k => I.ok.has _ (.inl k)) fun k => I.ok.has _ (.inr k)
  refine wpAny_comprehension_free (use := none) rfl hs (closure_ok clos) ok.kind (fun y hy e => by rw [ok.uniq y hy, e]) (thn (hi.run pins s σ H _ I h) fun xv s1 hx => thn hx fun itv s2 h2 => ?_)
  obtain ⟨it, fp, tn, J, H2, rfl, I2, T, st2, f2, q⟩ := h2
  refine wpAny_newObj_type (newEnv_comp ?_) (by show 0 ≤ sizeLine; decide)
  generalize hD : s2.heap.objs.size = D
  obtain ⟨W, ⟨m0, w0⟩, turn⟩ := q D (I2.hok.fresh (Nat.le_of_eq hD))
  generalize hs3 : ({ s2 with heap := s2.heap.push { cls := .type "list", data := .seq ([] : List Value).toArray } } : Shared) = s3
  have h3 : s3.heap = s2.heap.push { cls := .type "list", data := .seq ([] : List Value).toArray } := by rw [← hs3]
  have I3 : Inv X pins σ (upd H2 D (.lst [])) s3 := by
    subst hs3
    refine I2.laid (t' := s2.toks) (fun b o e => Heap.get?_push_of_some _ e) (Nat.le_of_eq hD) ⟨Nat.zero_le _, [], 0, .nil, ?_⟩
    subst hD
    exact Heap.get?_push_size _ rfl
  have f3 : ∀ b ∈ fp, FpOk X pins (upd H2 D (.lst [])) b ∧ b < s3.heap.objs.size := fun b hb => by
    obtain ⟨o, eo, _⟩ := T.obj _ _ st2 b hb
    have hlt := Heap.lt_size eo
    refine ⟨⟨?_, (f2 b hb).2⟩, by rw [h3, Heap.size_push]; exact Nat.lt_succ_of_lt hlt⟩
    rw [upd_ne (by rw [← hD]; exact Nat.ne_of_lt hlt)]
    exact (f2 b hb).1
  have st3 : tn 0 s3.heap := T.keep _ _ _ st2 fun b _ o e => by rw [h3]; exact Heap.get?_push_of_some _ e
  have I4 := blockH I3 ok hN f3
  have pg := hg s3 (upd H2 D (.lst [])) s3.heap.objs.size (cellsFrom (s3.heap.objs.size + 1) scope.names (cloFrom X.env.cells scope.names [])) fp
  have pt := ht s3 (upd H2 D (.lst [])) s3.heap.objs.size (cellsFrom (s3.heap.objs.size + 1) scope.names (cloFrom X.env.cells scope.names [])) fp
  have pe := he s3 (upd H2 D (.lst [])) s3.heap.objs.size (cellsFrom (s3.heap.objs.size + 1) scope.names (cloFrom X.env.cells scope.names [])) fp
  show codeAny _ _ (.compStart (.ListComp elt [⟨tg, iter, ifs, 0⟩] scope pos) 0 (.ref it) (.ref D) (compEnvC scope (cellsFrom (s3.heap.objs.size + 1) scope.names (cloFrom X.env.cells scope.names [])) s3.heap.objs.size X.env)) (compPost (model X.prog X.w) X.A X.xe none (EP X pins σ Q) (.ref D) s3.heap.objs.size) { s3 with heap := pushCells (s3.heap.push { cls := .type "dict", data := .dict #[] }) scope.names }
  have nfp : ∀ b ∈ fp, (upd H2 D (.lst [])) b = none := fun b hb => (f3 b hb).1.1
  generalize hce : compEnvC scope (cellsFrom (s3.heap.objs.size + 1) scope.names (cloFrom X.env.cells scope.names [])) s3.heap.objs.size X.env = ce at I4 pg pt pe ⊢
  have cL : ce.locals = s3.heap.objs.size := by rw [← hce]; rfl
  generalize upd H2 D (.lst []) = H3 at I3 I4 pg pt pe w0 nfp f3
  generalize hs4 : ({ s3 with heap := pushCells (s3.heap.push { cls := .type "dict", data := .dict #[] }) scope.names } : Shared) = s4 at I4 ⊢
  have st4 : tn 0 s4.heap := T.keep _ _ _ st3 fun b _ o e => by rw [← hs4]; exact pushCells_keeps _ _ _ _ (Heap.get?_push_of_some _ e)
  have hot : HotC (X.blkH s3 H3 scope ce fp) := HotC.blk hc
  have stat : ∀ {σ' : St} {H' : Hp} {s' : Shared}, Inv (X.blkH s3 H3 scope ce fp) [] σ' H' s' → (∀ b ∈ fp, H' b = none) → ∀ b ∈ fp, FpOk (X.blkH s3 H3 scope ce fp) [] H' b := fun {σ' H' s'} I' hn b hb =>
    ⟨hn b hb, (I'.ok.exf b hb).1, I'.ok.exfs b hb, .inl hb, fun x c e => (I'.ok.exf b hb).2 x c e, fun p hp => (f3 b hb).1.2.2.2.2.2 p (List.mem_append_left _ (by simpa using (show p ∈ X.pn ++ ([] : List (Addr × Obj)) from hp)))⟩
  have loop : codeAny (model X.prog X.w) X.A (.compLoop (.ListComp elt [⟨tg, iter, ifs, 0⟩] scope pos) 0 (.ref it) (.ref D) ce) (compPost (model X.prog X.w) X.A X.xe none (EP X pins σ Q) (.ref D) s3.heap.objs.size) s4 := by
    refine compLoop_any (fun n s' => ∃ i H', Inv (X.blkH s3 H3 scope ce fp) [] (wipe σ (own.map (·.2))) H' s' ∧ tn i s'.heap ∧ (∀ b ∈ fp, H' b = none) ∧ W i n H') ?_ m0 ⟨0, H3, I4, st4, nfp, w0⟩
    rintro n s5 ⟨i, H5, I5, st5, n5, w5⟩
    rcases turn i n H5 w5 with ⟨stop, qq⟩ | ⟨go, Nx, hNx, step⟩
    · refine thnF (T.done (X.blkH s3 H3 scope ce fp) rfl rfl rfl hot i [] s5 _ H5 (fun _ _ => False) I5 (stat I5 n5) st5 stop) fun r s6 ⟨hr, I6⟩ => ?_
      subst hr
      have I7 : Inv X pins σ H5 s6 := I3.call' (ch := fp) I6.os I6.base I6.hok I6.bare fun b hb => ⟨(f3 b hb).1.2.2.2.1, (f3 b hb).1.2.1, (f3 b hb).1.2.2.2.2.1, (f3 b hb).1.2.2.2.2.2⟩
      have nC : H5 s3.heap.objs.size = none := by rw [← cL]; exact I6.free
      obtain ⟨m, hn, _⟩ := I6.loc
      have hn : s6.heap.Ns s3.heap.objs.size m := by rw [← cL]; exact hn
      refine ⟨m, hn, fun h'' sb => ?_⟩
      obtain ⟨f0, f1, f2', f3', f4, f5⟩ := I3.fpOk (Nat.le_refl _) nC
      exact ⟨.ref D, H5, I7.turned (t' := s6.toks) (fun b o hb e => (sb.2 b hb).trans e) f0 f1 f3' f4 f5, rfl, qq⟩
    · refine thnF (T.item (X.blkH s3 H3 scope ce fp) rfl rfl rfl hot i [] s5 _ H5 (fun _ _ => False) I5 (stat I5 n5) st5 go) fun r s6 ⟨u, hr, h6⟩ => ?_
      subst hr
      refine thnF h6 fun _ s7 ⟨x, H7, I7, r7, y7, st7, n7⟩ => ?_
      refine thnF (pg.run _ s7 _ H7 x u _ (I7.pinned (stat I7 n7) (T.obj _ _ st7)) r7 (step x H7 y7)) fun _ s8 ⟨σ8, H8, I8, hw8, q8⟩ => ?_
      refine thnF (pt.run _ s8 σ8 H8 _ I8 q8) fun b s9 ⟨H9, I9, q9⟩ => ?_
      have fin : ∀ {s' : Shared} {H' : Hp}, Inv (X.blkH s3 H3 scope ce fp) ([] ++ pinsAt fp s7.heap) σ8 H' s' → Nx H' → ∃ m, m < n ∧ ∃ i H', Inv (X.blkH s3 H3 scope ce fp) [] (wipe σ (own.map (·.2))) H' s' ∧ tn i s'.heap ∧ (∀ b ∈ fp, H' b = none) ∧ W i m H' := fun {s' H'} I' nx => by
        obtain ⟨m', hm, w'⟩ := hNx H' nx
        have at_ : ∀ b ∈ fp, ∀ o, s7.heap.get? b = some o → s'.heap.get? b = some o ∧ H' b = none := fun b hb o e => by
          obtain ⟨z1, z2, _⟩ := I'.pin (b, o) (List.mem_append_right _ (List.mem_append_right _ (mem_pinsAt hb e)))
          exact ⟨z1, z2⟩
        refine ⟨m', hm, i + 1, H', (I'.unpinned (pins := [])).weak (by rw [← hw8, wipe_length]) (fun j v e => ?_), T.keep _ _ _ st7 fun b hb o e => (at_ b hb o e).1, fun b hb => ?_, w'⟩
        · rw [← hw8] at e
          exact (wipe_some e).1
        · obtain ⟨o, e, _⟩ := T.obj _ _ st7 b hb
          exact (at_ b hb o e).2
      cases b with
      | false => exact fin I9 q9
      | true =>
        refine thnF (pe.run _ s9 σ8 H9 _ I9 q9) fun z s10 ⟨yv, H10, I10, r10, acc, hD10, hz10, nx⟩ => ?_
        exact app_ok (X := X.blkH s3 H3 scope ce fp) I10 hD10 hz10 r10 fun s11 I11 => fin I11 nx
  exact codeAny_compStart_list loop (T.self X.A 0 _ _ _ st4 loop)
end
/-! ### a def called with the handled exception -/
/-- as FnH; the promise knows the handled exception and its object -/
structure FnP (P : Program) (w : World) (K : PySem.W.Frag) (mg : Str → Option Value) (base : Heap) (k : Nat) (f : Addr) (fd : FuncData) (ps : List Str) (sp : Addr × Obj → Sp) : Prop where
  len : ∀ p vs H Q E, sp p vs H Q E → vs.length = ps.length
  run : ∀ (A : Around) (outer : List Env) (s : Shared) (H : Hp) (args : Args) (us : List Value) (vs : List V) (Q : VK) (E : XK) (p : Addr × Obj), RoomH k A → Hot1 A p → PinOk outer H s p → Env0 P w K mg base A outer s H → BindsTo s fd args (ps.zip us) → Vals vs us → sp p vs H Q E →
    codeAny (model P w) A (.call (.ref f) args) (CR (L2.CX P w) outer P w H s Q E) s
section
variable {P : Program} {w : World} {K : PySem.W.Frag} {mg : Str → Option Value} {base : Heap}
theorem Fun.okP {x qual : Str} {st : Stmt} {f : Addr} {fd : FuncData} {N ps : List Str} {k : Nat} {sp : Addr × Obj → Sp} (F : Fun K x qual st f fd) (S : FnScope N ps (defScope st)) (len : ∀ p vs H Q E, sp p vs H Q E → vs.length = ps.length)
    (hbody : ∀ (cdv : Value) (A : Around) (outer : List Env) (s : Shared) (H : Hp) (vs : List V) (Q : VK) (E : XK) (p : Addr × Obj), Hot1 A p → RoomH k (A.deeper (envOfC qual (defScope st) s.heap.objs.size f cdv)) → sp p vs H Q E →
      ∃ t, PSs (cxH (L2.CX P w) P w K mg base N qual (defScope st) f cdv A outer s H E p) (defBody st) t ∧ t { nx := fun _ H' => Q .non H', rt := Q } (L2.start N vs) H) : FnP P w K mg base (k + 1) f fd ps sp := by
  obtain ⟨oc, od, kV, doc, pm, an, cdv, ct, osl, rfl, lk, hcd⟩ := F.ex
  refine ⟨len, fun A outer s H args us vs Q E p hr hot hpin e0 hb r hsp => ?_⟩
  have up : ∀ b o, base.get? b = some o → s.heap.get? b = some o := fun b o e => (e0.bs b o e).1
  have KX : K.In s.heap := e0.mod.kin.keeps up
  have par : ∀ y ∈ ps.zip us, (defScope st).names.lookup y.1 = some .local ∨ ((defScope st).names.lookup y.1 = some .cell ∧ ((cellsFrom (s.heap.objs.size + 1) (defScope st).names []).lookup y.1).isSome = true) := fun y hy => by
    have hy' := (List.of_mem_zip (show (y.1, y.2) ∈ ps.zip us from hy)).1
    exact (S.par y.1 hy').imp id fun q => ⟨q, PySem.W.cellsFrom_some _ _ _ (.inl q)⟩
  refine codeAny_call_function hr.depth (KX _ _ lk) rfl S.co S.gen rfl (PySem.W.codeRec_of KX hcd) (hb _ _ _ _ (wpAny_newFunctionEnv_cells S.kind par fun env he s1 x => ?_))
  subst he
  refine ⟨(e0.mod.nolimit.keeps up).keeps x.toInCall.keep, codeAny_func ?_⟩
  obtain ⟨t, ht, hq⟩ := hbody cdv A outer s H vs Q E p hot (hr.deeper _) hsp
  have I := inv_startH (CX := L2.CX P w) (mg := mg) (base := base) (E := E) S hpin e0 (len _ _ _ _ _ hsp) r x
  refine wpAny_mono (ht.run [] s1 (L2.start N vs) H _ I hq) (fun fl s' hs => ?_) fun e s' hs => hs
  cases fl with
  | ret u =>
    obtain ⟨v, σ', H', J, rv, q⟩ := hs
    exact ⟨v, H', J.os, J.bare, J.base, J.hok, rv, q⟩
  | next =>
    obtain ⟨σ', H', J, q⟩ := hs
    exact ⟨.non, H', J.os, J.bare, J.base, J.hok, rfl, q⟩
  | brk => exact hs.elim fun _ z => z.elim fun _ z => z.2.elim
  | cont => exact hs.elim fun _ z => z.elim fun _ z => z.2.elim
end
section
variable {X : Cx} {k : Nat} {f : Addr} {fd : FuncData} {ps : List Str} {sp : Addr × Obj → Sp} {x : Str} {q pos : Pos} {e : Expr} {es : List Expr} {t : TA} {p : Addr × Obj}
theorem pe_callP (F : FnP X.prog X.w X.K X.mg X.base k f fd ps sp) (hr : RoomH k X.A) (hot : Hot1 X.A p) (hp : p ∈ X.pn) (D : Defn X.K X.mg x f fd ps) (ha : PA X (e :: es) t)
    (hg : Gl X x := by rfl) (hdb : (x == ("__debug__" : Str)) = false := by decide) (he : starEach (e :: es) X.env = (false, eval e X.env) :: starEach es X.env := by rfl) (hpl : (backTo pos (starEach es X.env)).any (·.1) = false := by rfl) :
    PE X (.Call (.Name x q) (e :: es) [] pos) (tCall (sp p) [] E0 t) := by
  refine ⟨fun pins s σ H Q I h => ?_⟩
  refine wpAny_Call_Name_kw (ld_glob I hg D.g ?_ hdb)
  refine PySem.W.callWith_K (h₀ := X.base) I.ok.mod.kin D.k (thn (ha.run pos pins s σ H _ I h) fun us s1 ⟨vs, H1, I1, r, q⟩ => ⟨I1.kIn, ?_⟩) he hpl
  have h : sp p vs H1 Q E0 := by
    have z : sp p (vs ++ []) H1 Q E0 := q
    rw [List.append_nil] at z
    exact z
  have hl : us.length = ps.length := by rw [← r.length]; exact F.len _ _ _ _ _ h
  have b := D.b s1 us I1.kIn (by rw [List.append_nil]; exact hl)
  rw [List.append_nil] at b
  obtain ⟨p1, p2, p3, p4, p5⟩ := I1.pin p (List.mem_append_left _ hp)
  have hpin : PinOk X.stack H1 s1 p := ⟨p1, p2, fun hm => (List.mem_cons.mp (I1.stkSub p.1 hm)).elim p3 p4, p5⟩
  refine wpAny_call (codeAny_mono (F.run X.A X.stack s1 H1 ⟨us, []⟩ us vs Q E0 p hr hot hpin I1.env0 b r h) fun r s' hq => ?_)
  cases r with
  | error e => exact passL pins σ H1 s1 e s' I1 hq
  | ok fl =>
    cases fl with
    | ret u => exact I1.after hq
    | next => exact hq.elim
    | brk => exact hq.elim
    | cont => exact hq.elim
/-- isinstance(error, C), error the handled exception at a, of the class cls, its dict at d -/
def rIsP (K : PySem.W.Frag) (a : Addr) (cls : Value) (d : Option Addr) : List V → Hp → VK → Prop := fun xs H Q => ∃ (C dd : Addr) (fs : List (Str × V)) (c : V) (u : Value) (b : Bool), xs = [.ref a, c] ∧ ClsV c u ∧ cls = .ref C ∧ d = some dd ∧ H dd = some (.xd fs) ∧ KiC K C ∧ PySem.W.kitOne K (.ref C) u = some b ∧ Q (.bl b) H
theorem call_isP (hp : p ∈ X.pn) (hdat : ∃ vs, p.2.data = .fields vs) : CallR X (.builtin "isinstance") (rIsP X.K p.1 p.2.cls p.2.dict) := by
  intro pins s σ H xs us Q I r h
  obtain ⟨C, d, fs, c, u, b, rfl, k, hc, hd, ed, kc, e, q⟩ := h
  obtain ⟨vs, hdat⟩ := hdat
  obtain ⟨u1, u2, rfl, r1, r2⟩ := vals2 r
  have e2 := k.eq r2
  subst e2
  cases (show u1 = Value.ref p.1 from r1)
  obtain ⟨mA, hns, _⟩ := (show ObjOk X.prog X.w H s.heap d (.xd fs) from I.hok d _ ed)
  obtain ⟨od, hod, _⟩ := lookIn_ns hns
  have hi : PySem.W.InstAt s.heap p.1 p.2 C (some od) := ⟨(I.pin p (List.mem_append_left _ hp)).1, hc, by unfold PySem.W.notCls; rw [hdat] <;> rfl, by rw [hd]; exact hod⟩
  exact PySem.W.kia_one (PySem.W.kitx_exc kc.cl kc.ga kc.gg kc.sb kc.ca kc.sp kc.tk kc.ob) I.kIn hi e (fun z => nomatch z) fun tk => ⟨.bl b, H, I.tok tk, rfl, q⟩
end
end L2

end
section
set_option Elab.async false
set_option linter.all false
set_option maxRecDepth 100000
set_option maxHeartbeats 2000000
/-! EwI: errors as values, by types; words for derivations. -/
namespace Ew
open PySem PySem.Spec PyProof.Rows L2
/-! ### words -/
section
variable {X : Cx} {e : Expr} {es : List Expr} {t : TA} {p pos : Pos} {te : TE} {C : Addr} {nm : Str}
/-- a class of the module, by its name -/
theorem pcls (gC : X.mg nm = some (.ref C)) (hg : Gl X nm := by rfl) (hd : (nm == ("__debug__" : Str)) = false := by decide) : PE X (.Name nm pos) (tC (.ref C)) := pe_glob hg gC rfl hd
theorem bt_VE (m : X.mg "ValueError" = none) (hg : Gl X "ValueError" := by rfl) : PE X (.Name "ValueError" pos) (tC (.ty "ValueError")) := pe_bltn hg m L2.boot_ValueError rfl (by decide) (by decide)
theorem k_isX {K : PySem.W.Frag} (hK : X.K = K) (m : X.mg "isinstance" = none) (ha : PA X (e :: es) t) (hg : Gl X "isinstance" := by rfl) (he : starEach (e :: es) X.env = (false, eval e X.env) :: starEach es X.env := by rfl) (hpl : (backTo pos (starEach es X.env)).any (·.1) = false := by rfl) :
    PE X (.Call (.Name "isinstance" p) (e :: es) [] pos) (tCB (rIsX K) t) := hK ▸ pe_callB call_isX hg m PyProof.Rows.boot_isinstance ha (by decide) (by decide) he hpl
theorem k_isP {K : PySem.W.Frag} (hK : X.K = K) {q : Addr × Obj} (hq : q ∈ X.pn) (hdat : ∃ vs, q.2.data = .fields vs) (m : X.mg "isinstance" = none) (ha : PA X (e :: es) t) (hg : Gl X "isinstance" := by rfl) (he : starEach (e :: es) X.env = (false, eval e X.env) :: starEach es X.env := by rfl) (hpl : (backTo pos (starEach es X.env)).any (·.1) = false := by rfl) :
    PE X (.Call (.Name "isinstance" p) (e :: es) [] pos) (tCB (rIsP K q.1 q.2.cls q.2.dict) t) := hK ▸ pe_callB (call_isP hq hdat) hg m PyProof.Rows.boot_isinstance ha (by decide) (by decide) he hpl
theorem k_notin {K : PySem.W.Frag} (hK : X.K = K) : OpR X (compareOp .NotIn) (rIn K true) := hK ▸ op_notIn_seq
theorem k_xa {K : PySem.W.Frag} (hK : X.K = K) {n : Str} (he : PE X e te) (hb : attributeBase e n X.env (eval e X.env) = eval e X.env := by rfl) : PE X (.Attribute e n pos) (tXa K n te) := hK ▸ pe_xa he hb
end
/-- try: body, except C as e: suite; no context -/
def tTryN (K : PySem.W.Frag) (c : Value) (i : Nat) (ts : Addr → Value → Option Addr → TS) (Wout : WX) (tb : WX → TS) : TS := fun D σ H => tb (wAs K c i ts Wout D) D σ H
theorem k_tryN {X : Cx} {x n : Str} {c : Value} {i : Nat} {body suite : List Stmt} {b₀ : Stmt} {np pos pos' : Pos} {tb : WX → TS} {ts : Addr → Value → Option Addr → TS} {Wout : WX} {K : PySem.W.Frag} (hK : X.K = K) (hs : X.stack = X.env :: X.outer) (hf : X.env.frame = some X.env.locals) (hN : X.N.Nodup) (hi : X.N[i]? = some n) (hln : X.env.kindOf n = some .local) (hc : Names X x c) (tk : L2N.Takes X Wout)
    (hb : ∀ (W : WX) (pn : List (Addr × Obj)) (xe : Value → Shared → Prop), L2N.Takes (X.tr pn xe) W → PassesOwn (model X.prog X.w) X.A X.env xe → PSs (X.tr pn xe) body (tb W))
    (hsu : ∀ (a : Addr) (oe : Obj) (cls : Value) (d : Option Addr) (pn : List (Addr × Obj)), L2N.Zn cls d oe → (∃ vs, oe.data = .fields vs) → PSs (X.suite a ((a, oe) :: pn)) (b₀ :: suite) (ts a cls d)) :
    PS X (.Try body [.ExceptHandler (some (.Name x np)) (some n) (b₀ :: suite) pos'] [] [] pos) (tTryN K c i ts Wout tb) := hK ▸ L2N.ps_try_as hs hf hN hi hln hc tk hb hsu
section
variable {X : Cx} {o e : Expr} {to : TE} {t : TA} {apos cpos : Pos}
/-- xs.pop(i) -/
theorem k_popAt {K : PySem.W.Frag} (hK : X.K = K) (ho : PE X o to) (ha : PA X [e] t) (hbase : attributeBase o "pop" X.env (eval o X.env) = eval o X.env := by rfl)
    (hfew : ((backTo cpos (starEach [e] X.env)).all (fun x => !x.1) && (backToKw cpos (keywordEach [] X.env)).all (fun x => x.1.isSome) && decide ([e].length + ([] : List Keyword).length + (if ([] : List Keyword).isEmpty then 0 else 1) < 30)) = true := by rfl)
    (hline : (apos.endLine == cpos.line) = true := by rfl) (hs : starEach [e] X.env = (false, eval e X.env) :: starEach [] X.env := by rfl) (hplain : (backTo cpos (starEach [] X.env)).any (·.1) = false := by rfl) :
    PE X (.Call (.Attribute o "pop" apos) [e] [] cpos) (tBM K "list" rPopAt to t) := hK ▸ pe_bm PySem.F.plainAttrs_list PySem.F.slot_list_pop PySem.F.type_list_pop mt_popAt ho ha hbase hfew hline hs hplain
end
/-! ### types -/
section
variable {M B : Addr → Prop} {H H' : Hp} {a C d : Addr} {fs : List (Str × V)}
theorem _root_.L2.ErAt.up (e : Exm M B H H') (h : ErAt H a C d fs) : ErAt H' a C d fs := ⟨let ⟨φ, h1, h2⟩ := h.1; ⟨φ, e.keepT h1 (fun _ z => nomatch z), h2⟩, e.keepT h.2 fun _ z => nomatch z⟩
end
/-- an error of the class at C with these fields -/
def eoT (C : Addr) (fs : List (Str × V)) : Typ := ⟨fun _ _ v H => ∃ a d, v = .ref a ∧ ErAt H a C d fs, fun e ⟨a, d, h1, h2⟩ => ⟨a, d, h1, h2.up e⟩, fun _ h => h, fun h => h⟩
/-- of another value w it is known that .. -/
def atV (w : V) (T : Typ) : Typ := ⟨fun M B _ H => T.p M B w H, fun e h => T.up e h, fun n h => T.weak n h, fun h => T.drop h⟩
/-- the handled error -/
def peT (a dd : Addr) : Typ := ⟨fun _ _ v H => v = .ref a ∧ ∃ fs, H dd = some (.xd fs), fun e ⟨h1, fs, h2⟩ => ⟨h1, fs, e.keepT h2 fun _ z => nomatch z⟩, fun _ h => h, fun h => h⟩
section
variable {W : Wd} {Γ Γ' : Gam} {K : PySem.W.Frag} {te tb : TE} {ta : TA} {tt : TT} {ts tw : TS} {T U A : Typ} {Ts : List Typ} {C : Addr} {fs : List (Str × V)} {n i j : Nat} {fl : FLs} {u c : V} {cu : Value} {b : Bool} {f : Str} {N : Sx → Hp → Prop} {R : V → Hp → Prop} {Bk Ct : Sx → Hp → Prop} {Wx : WX} {a dd : Addr} {cls : Value} {d : Option Addr}
/-- C(..) -/
theorem ty_mkV (h : TyA W Γ ta Ts) (hn : Ts.length = n) (k : ∀ vs fs M B H v, TysV M B Ts vs H → fl vs fs → (eoT C fs).p M B v H → T.p M B v H) : Ty W Γ (tMkV C n fl ta) T := fun σ H c g Q q =>
  h σ H c g _ fun vs H1 e1 hv => ⟨by rw [hv.length, hn], fun fs hf e d ne nd hd => by
    have nd' : upd H1 d (.xd fs) e = none := by rw [upd_ne (Ne.symm hd)]; exact ne
    have e2 : Ex W.B H1 (upd (upd H1 d (.xd fs)) e (erO C d e)) := (Ex.new nd).trans (Ex.new nd')
    exact q _ _ (e1.trans e2) (k vs fs _ _ _ _ (hv.up e2.toW) hf ⟨e, d, rfl, ⟨_, upd_same, fun h z => z⟩, by rw [upd_ne hd]; exact upd_same⟩)⟩
theorem ty_xa (h : Ty W Γ te (eoT C fs)) (xf : XfC K C) (no : PySem.W.findIn K (.ref C) f = some none) (l : fs.lookup f = some u) : Ty W Γ (tXa K f te) (isV u) := fun σ H c g Q q =>
  h σ H c g _ fun v H1 e1 ⟨a, d, h1, h2⟩ => ⟨a, C, d, fs, u, h1, h2, xf, no, l, q u H1 e1 rfl⟩
theorem cbt_isX (ki : KiC K C) (cv : ClsV c cu) (kt : PySem.W.kitOne K (.ref C) cu = some b) : CbT W (rIsX K) [eoT C fs, isV c] (dt K (.bool b)) := fun us H cx hu Q q => by
  match us, hu with
  | [x, y], hu =>
    obtain ⟨⟨a, d, rfl, h2⟩, hy, _⟩ := hu
    have hy : y = c := hy
    subst hy
    exact ⟨a, C, d, fs, y, cu, b, rfl, cv, h2, ki, kt, q _ H (Ex.refl _ _) (.bl b)⟩
theorem cbt_isP (ki : KiC K C) (hc : cls = .ref C) (hd : d = some dd) (cv : ClsV c cu) (kt : PySem.W.kitOne K (.ref C) cu = some b) : CbT W (rIsP K a cls d) [peT a dd, isV c] (dt K (.bool b)) := fun us H cx hu Q q => by
  match us, hu with
  | [x, y], hu =>
    obtain ⟨⟨rfl, fs, h2⟩, hy, _⟩ := hu
    have hy : y = c := hy
    subst hy
    exact ⟨C, dd, fs, y, cu, b, rfl, cv, hc, hd, h2, ki, kt, q _ H (Ex.refl _ _) (.bl b)⟩
/-- two slots hold the same value -/
theorem ty_same (hi : Γ[i]? = some (some (isV u))) (hj : Γ[j]? = some (some (anT (isV u) T))) : Ty W Γ (tVar i) T := fun σ H c g Q q => by
  obtain ⟨v, h1, h2⟩ := g.get hi
  obtain ⟨w, h3, h4, h5⟩ := g.get hj
  have h2 : v = u := h2
  have h4 : w = u := h4
  subst h2
  subst h4
  exact ⟨_, h1, q _ H (Ex.refl W.B H) h5⟩
/-- the value of a slot gets a name -/
theorem TyS.openV (hi : Γ[i]? = some (some T)) (h : ∀ u, TyS W (Γ.set i (some (anT (isV u) T))) ts N R Bk Ct) : TyS W Γ ts N R Bk Ct := fun σ H c g => by
  obtain ⟨v, h1, h2⟩ := g.get hi
  have e : σ.set i (some v) = σ := by
    apply List.ext_getElem?
    intro k
    by_cases hk : i = k
    · subst hk
      rw [List.getElem?_set_self (List.getElem?_eq_some_iff.mp h1).1, h1]
    · rw [List.getElem?_set_ne hk]
  have g' : EnvW W (Γ.set i (some (anT (isV v) T))) σ H := by
    have z := EnvL.set (T := anT (isV v) T) (i := i) (v := v) ⟨rfl, h2⟩ g
    rw [e] at z
    exact z
  exact h v σ H c g'
/-- raise C(..) -/
theorem tys_mkR (h : TyA W Γ ta Ts) (hn : Ts.length = n) (k : ∀ d fs σ H, nE W Γ σ H → H d = some (.xd fs) → Wx (.ref C) (some d) σ H) : TyS W Γ (fun _ σ H => tMkR C n fl ta σ H fun cls d H' => Wx cls d σ H') noN R Bk Ct := fun σ H c g D _ _ _ _ =>
  h σ H c g _ fun vs H1 e1 hv => ⟨by rw [hv.length, hn], fun fs hf d nd => k d fs σ _ ⟨c.up (e1.trans (Ex.new nd)), g.up (e1.trans (Ex.new nd)).toW⟩ upd_same⟩
end
/-! ### a def that lets errors out, whose contexts are None -/
/-- it raises an error of the class C x, some fields -/
def spN {α : Type} (Cn : α → Prop) (A : α → List Typ) (cl : α → Addr) : Sp := fun vs H _ E => ∃ (M B : Addr → Prop) (x : α), (∀ a, B a → M a) ∧ (∀ a, B a → BoxAt H a) ∧ (∀ a, M a → H a ≠ none) ∧ Cn x ∧ TysV M B (A x) vs H ∧
  ∀ d fs H', Ex B H H' → H' d = some (.xd fs) → E (.ref (cl x)) (some d) H'
section
variable {W : Wd} {Γ : Gam} {K : PySem.W.Frag} {ta : TA} {α : Type} {Cn : α → Prop} {A : α → List Typ} {cl : α → Addr} {Wx : WX} {N : Sx → Hp → Prop} {R : V → Hp → Prop} {Bk Ct : Sx → Hp → Prop}
/-- the call as a statement: nothing comes behind it -/
theorem tys_callN (x : α) (hC : Cn x) (h : TyA W Γ ta (A x)) (k : ∀ d fs σ H, nE W Γ σ H → H d = some (.xd fs) → Wx (.ref (cl x)) (some d) σ H) : TyS W Γ (tDrop (tCallS (spN Cn A cl) (WE Wx) ta)) noN R Bk Ct := fun σ H c g D _ _ _ _ =>
  h σ H c g _ fun vs H1 e1 hv => ⟨W.M, W.B, x, W.sub, (c.up e1).box, (c.up e1).al, hC, hv, fun d fs H' e2 h2 => k d fs σ H' ⟨c.up (e1.trans e2), g.up (e1.trans e2).toW⟩ h2⟩
/-- try: body, except C as e: suite -/
theorem tys_tryN {c : Value} {i : Nat} {ts : Addr → Value → Option Addr → TS} {Wout : WX} {tb : WX → TS} {Er : Value → Option Addr → Sx → Hp → Prop} (hb : ∀ Wx : WX, (∀ c d σ H, Er c d σ H → Wx c d σ H) → TyS W Γ (tb Wx) N R Bk Ct)
    (hh : ∀ cls d σ H, Er cls d σ H → nE W Γ σ H ∧ ∃ C dd fs, cls = .ref C ∧ d = some dd ∧ H dd = some (.xd fs) ∧ PySem.W.exmOne K (.ref C) c = some true ∧ ∀ a, TyS W (Γ.set i (some (peT a dd))) (ts a (.ref C) (some dd)) noN R noN noN) :
    TyS W Γ (tTryN K c i ts Wout tb) N R Bk Ct := fun σ H cx g D dn dr db dc =>
  hb (wAs K c i ts Wout D) (fun cls d σ H er => by
    obtain ⟨n, C, dd, fs, rfl, rfl, h1, h2, h3⟩ := hh cls d σ H er
    refine ⟨true, h2, fun _ a ha => ?_, fun z => Bool.noConfusion z⟩
    exact h3 a _ H n.1 (EnvL.set (T := peT a dd) ⟨rfl, fs, h1⟩ n.2) _ (fun _ _ _ z => z.elim) dr (fun _ _ _ z => z.elim) fun _ _ _ z => z.elim) σ H cx g D dn dr db dc
end
section
variable {P : Program} {w : World} {K : PySem.W.Frag} {mg : Str → Option Value} {base : Heap}
theorem fn_tyN {x qual : Str} {st : Stmt} {f : Addr} {fd : FuncData} {N ps : List Str} {k : Nat} {α : Type} {Cn : α → Prop} {A : α → List Typ} {cl : α → Addr} (F : Fun K x qual st f fd) (S : FnScope N ps (defScope st))
    (len : ∀ x, Cn x → (A x).length = ps.length)
    (hbody : ∀ (cdv : Value) (Ar : Around) (outer : List Env) (s : Shared) (H : Hp) (E : XK), Room k (Ar.deeper (envOfC qual (defScope st) s.heap.objs.size f cdv)) →
      ∃ t, PSs (cxOf (L2N.CX P w) P w K mg base N qual (defScope st) f cdv Ar outer s H E) (defBody st) t ∧ ∀ (W : Wd) (x : α), Cn x → (∀ Γ d fs σ H, nE W Γ σ H → H d = some (.xd fs) → E (.ref (cl x)) (some d) H) →
        TyS W ((A x).map some ++ List.replicate (N.length - ps.length) none) t noN (fun _ _ => False) noN noN) :
    FnOk P w K mg base (L2N.CX P w) (k + 1) f fd ps (spN Cn A cl) := by
  obtain ⟨oc, od, kV, doc, pm, an, cdv, ct, osl, rfl, lk, hcd⟩ := F.ex
  refine fn_of lk hcd S (fun vs H Q E h => ?_) fun Ar outer s H vs Q E hr h => ?_
  · obtain ⟨M, B, x, _, _, _, hC, h, _⟩ := h
    rw [h.length, len x hC]
  · obtain ⟨M, B, x, hs, hb, ha, hC, h, qe⟩ := h
    obtain ⟨t, ht, k⟩ := hbody cdv Ar outer s H E hr
    refine ⟨t, ht, k (Wd.base M B H hs) x hC (fun Γ d fs σ H' n hl => qe d fs H' n.1.ex hl) (L2.start N vs) H ⟨hb, ha, Ex.refl B H, True.intro⟩ ?_ _ (fun σ' H' _ n => n.elim) (fun v H' n => n.elim) (fun _ _ _ z => z.elim) (fun _ _ _ z => z.elim)⟩
    unfold L2.start
    have e : vs.length = ps.length := by rw [h.length, len x hC]
    rw [e]
    exact env_start h _
/-- a def called with the handled error, by its typed body -/
def spP' {α : Type} (Cn : α → Prop) (cl : α → Addr) (R : α → Typ) (a : Addr) (cls : Value) (d : Option Addr) : Sp := fun vs H Q _ => ∃ (M B : Addr → Prop) (x : α) (dd : Addr), (∀ a, B a → M a) ∧ (∀ a, B a → BoxAt H a) ∧ (∀ a, M a → H a ≠ none) ∧ Cn x ∧ cls = .ref (cl x) ∧ d = some dd ∧ TysV M B [peT a dd] vs H ∧
  ∀ v H', Ex B H H' → (R x).p M B v H' → Q v H'
def spP {α : Type} (Cn : α → Prop) (cl : α → Addr) (R : α → Typ) (q : Addr × Obj) : Sp := spP' Cn cl R q.1 q.2.cls q.2.dict
theorem fn_tyP {x qual : Str} {st : Stmt} {f : Addr} {fd : FuncData} {N ps : List Str} {k : Nat} {α : Type} {Cn : α → Prop} {cl : α → Addr} {R : α → Typ} (F : Fun K x qual st f fd) (S : FnScope N ps (defScope st)) (len : ps.length = 1)
    (hbody : ∀ (cdv : Value) (Ar : Around) (outer : List Env) (s : Shared) (H : Hp) (E : XK) (q : Addr × Obj), L2H.Hot1 Ar q → L2H.RoomH k (Ar.deeper (envOfC qual (defScope st) s.heap.objs.size f cdv)) →
      ∃ t, PSs (L2H.cxH (L2.CX P w) P w K mg base N qual (defScope st) f cdv Ar outer s H E q) (defBody st) t ∧ ∀ (W : Wd) (x : α) (dd : Addr), Cn x → q.2.cls = .ref (cl x) → q.2.dict = some dd → TyS W (some (peT q.1 dd) :: List.replicate (N.length - ps.length) none) t (fun _ H' => rW W (R x) .non H') (rW W (R x)) noN noN) :
    FnP P w K mg base (k + 1) f fd ps (spP Cn cl R) := by
  refine F.okP S (fun q vs H Q E h => ?_) fun cdv Ar outer s H vs Q E q hot hr h => ?_
  · obtain ⟨M, B, x, dd, _, _, _, _, _, _, h, _⟩ := h
    rw [h.length, len]; rfl
  · obtain ⟨M, B, x, dd, hs, hb, ha, hC, e1, e2, h, k⟩ := h
    obtain ⟨t, ht, kk⟩ := hbody cdv Ar outer s H E q hot hr
    refine ⟨t, ht, kk (Wd.base M B H hs) x dd hC e1 e2 (L2.start N vs) H ⟨hb, ha, Ex.refl B H, True.intro⟩ ?_ _ (fun σ' H' _ n => k _ _ n.1 n.2) (fun v H' n => k _ _ n.1 n.2) (fun _ _ _ z => z.elim) (fun _ _ _ z => z.elim)⟩
    unfold L2.start
    have e : vs.length = ps.length := by rw [h.length, len]; rfl
    rw [e]
    exact env_start h _
end
section
variable {W : Wd} {Γ : Gam} {ta : TA} {α : Type} {Cn : α → Prop} {cl : α → Addr} {R : α → Typ} {E : XK} {q : Addr × Obj} {dd : Addr}
theorem ty_callP {a : Addr} (x : α) (hC : Cn x) (h : TyA W Γ ta [peT a dd]) : Ty W Γ (tCall (spP' Cn cl R a (.ref (cl x)) (some dd)) [] E ta) (R x) := fun σ H c g Q qq =>
  h σ H c g _ fun vs H1 e1 hv => ⟨W.M, W.B, x, dd, W.sub, (c.up e1).box, (c.up e1).al, hC, rfl, rfl, by rw [List.append_nil]; exact hv, fun v H2 e2 h2 => qq v H2 (e1.trans e2) h2⟩
end
section
variable {X : Cx} {a : Addr} {oe : Obj} {cls : Value} {d : Option Addr} {pn : List (Addr × Obj)} {e : Expr} {es : List Expr} {t : TA} {p pos : Pos}
theorem k_isPz {K : PySem.W.Frag} (hK : X.K = K) (hz : L2N.Zn cls d oe) (hf : ∃ vs, oe.data = .fields vs) (m : X.mg "isinstance" = none) (ha : PA (X.suite a ((a, oe) :: pn)) (e :: es) t) (hg : Gl X "isinstance" := by rfl) (he : starEach (e :: es) X.env = (false, eval e X.env) :: starEach es X.env := by rfl) (hpl : (backTo pos (starEach es X.env)).any (·.1) = false := by rfl) :
    PE (X.suite a ((a, oe) :: pn)) (.Call (.Name "isinstance" p) (e :: es) [] pos) (tCB (rIsP K a cls d) t) := by
  obtain ⟨rfl, rfl, _⟩ := hz
  exact k_isP (X := X.suite a ((a, oe) :: pn)) (q := (a, oe)) hK List.mem_cons_self hf m ha hg he hpl
theorem k_callPz {x : Str} {f : Addr} {fd : FuncData} {ps : List Str} {k : Nat} {α : Type} {Cn : α → Prop} {cl : α → Addr} {R : α → Typ} (hz : L2N.Zn cls d oe) (hf : ∃ vs, oe.data = .fields vs) (F : FnP X.prog X.w X.K X.mg X.base k f fd ps (spP Cn cl R)) (hr : Room k X.A) (D : Defn X.K X.mg x f fd ps) (ha : PA (X.suite a ((a, oe) :: pn)) (e :: es) t)
    (hg : Gl X x := by rfl) (hdb : (x == ("__debug__" : Str)) = false := by decide) (he : starEach (e :: es) X.env = (false, eval e X.env) :: starEach es X.env := by rfl) (hpl : (backTo pos (starEach es X.env)).any (·.1) = false := by rfl) :
    PE (X.suite a ((a, oe) :: pn)) (.Call (.Name x p) (e :: es) [] pos) (tCall (spP' Cn cl R a cls d) [] E0 t) := by
  obtain ⟨vs, hd⟩ := hf
  have hot : L2H.Hot1 (X.suite a ((a, oe) :: pn)).A (a, oe) := ⟨rfl, vs, hd, hz.2.2 vs hd⟩
  obtain ⟨rfl, rfl, _⟩ := hz
  exact pe_callP (X := X.suite a ((a, oe) :: pn)) (p := (a, oe)) F ⟨hr.dp, hr.un⟩ hot List.mem_cons_self D ha hg hdb he hpl
/-- [.. for ..] where an exception is handled -/
theorem plcH {elt tg iter : Expr} {ifs : List Expr} {scope : Scope} (own : List (Str × Nat)) {wi : TI} {g : TG} {tt : TT} {te : TE} (hc : L2H.HotC X) (nd : X.N.Nodup) (hi : L2H.PIH X tg iter wi)
    (hg : ∀ (s : Shared) (H : Hp) (C : Addr) (cl : List (Str × Addr)) (fp : List Addr), PG (X.blkH s H scope (compEnvC scope cl C X.env) fp) tg g) (ht : ∀ (s : Shared) (H : Hp) (C : Addr) (cl : List (Str × Addr)) (fp : List Addr), PTs (X.blkH s H scope (compEnvC scope cl C X.env) fp) ifs tt)
    (he : ∀ (s : Shared) (H : Hp) (C : Addr) (cl : List (Str × Addr)) (fp : List Addr), PE (X.blkH s H scope (compEnvC scope cl C X.env) fp) elt te)
    (ok : blkC X.N X.env.scope scope own = true) (hs : ∀ x, foldedSetIterable iter X.env x = pure x := by intro _; rfl) :
    PE X (.ListComp elt [⟨tg, iter, ifs, 0⟩] scope pos) (tLc wi g tt te (own.map (·.2))) := pe_lcH hc nd hi (blkOk_by ok) hg ht he hs
end
end Ew

end
set_option Elab.async false
set_option linter.all false
set_option maxRecDepth 100000
set_option maxHeartbeats 400000
namespace Lk00
section
open PySem L2 Ew
local macro_rules | `(tactic| tm_at "side") => `(tactic| first | assumption | omega | decide | (exact sm_mul (by assumption) (by assumption)) | (exact ⟨by decide, by decide, by decide⟩) | (exact ⟨by decide, by decide⟩) | (exact .inl ⟨by decide, by decide⟩) | (exact .inr ⟨by decide, by decide⟩) | (simp only [List.length_cons, List.length_nil, List.length_map, List.length_range]; omega) | rfl)
local macro_rules | `(tactic| tm_at "op") => `(tactic| first
  | (with_reducible exact opt_add) | (with_reducible exact opt_sub) | (with_reducible exact opt_lt) | (with_reducible exact opt_le) | (with_reducible exact opt_gt) | (with_reducible exact opt_ge)
  | (with_reducible exact opt_eqI) | (with_reducible exact opt_neI) | (with_reducible exact opt_eqB) | (with_reducible exact opt_neB) | (with_reducible exact opt_eqS) | (with_reducible exact opt_neS)
  | (with_reducible exact opt_isN) | (with_reducible exact opt_notN) | (with_reducible exact opt_isB)
  | ((with_reducible refine' opt_mod ?s1); (case s1 => tm_at "side"))
  | ((with_reducible refine' opt_catT ?s1); (case s1 => tm_at "side"))
  | ((with_reducible refine' opt_catL ?s1); (case s1 => tm_at "side"))
  | (with_reducible exact opt_ix0)
  | ((with_reducible refine' opt_ixT ?s1); (case s1 => tm_at "side"))
  | ((with_reducible refine' opt_ixL ?s1); (case s1 => tm_at "side"))
  | ((with_reducible refine' opt_mul ?s1); (case s1 => tm_at "side"))
  | ((with_reducible refine' opt_mulW ?s1); (case s1 => tm_at "side"))
  | ((with_reducible refine' opt_div ?s1); (case s1 => tm_at "side"))
  | ((with_reducible refine' opt_pow ?s1); (case s1 => tm_at "side"))
  | ((with_reducible refine' opt_eqD ?s1 ?s2); (case s1 => tm_at "side"); (case s2 => tm_at "side"))
  | ((with_reducible refine' opt_neD ?s1 ?s2); (case s1 => tm_at "side"); (case s2 => tm_at "side")))
local macro_rules | `(tactic| tm_at "cb") => `(tactic| first
  | (with_reducible exact cbt_lenT) | (with_reducible exact cbt_lenL) | (with_reducible exact cbt_lenLT) | ((with_reducible refine' cbt_lenS ?s1); (case s1 => tm_at "side"))
  | ((with_reducible refine' cbt_isi ?s1); (case s1 => decide))
  | (with_reducible exact cbt_abs) | (with_reducible exact cbt_max2) | (with_reducible exact cbt_min2) | (with_reducible exact cbt_intI) | (with_reducible exact cbt_intB)
  | (with_reducible exact cbt_sum) | (with_reducible exact cbt_all) | (with_reducible exact cbt_tupL) | (with_reducible exact cbt_tupT))
local macro_rules | `(tactic| tm_at "tya") => `(tactic| first
  | (with_reducible exact tya_nil)
  | ((with_reducible refine' tya_cons ?h1 ?h2); (case h1 => tm_at "ty"); (case h2 => tm_at "tya")))
local macro_rules | `(tactic| tm_at "ty") => `(tactic| first
  | assumption
  | ((with_reducible refine' ty_var ?h1); (case h1 => rfl))
  | (with_reducible exact ty_int) | (with_reducible exact ty_bl) | (with_reducible exact ty_non) | (with_reducible exact ty_str) | (exact ty_int (K := by assumption)) | (exact ty_bl (K := by assumption)) | (exact ty_non (K := by assumption)) | (exact ty_str (K := by assumption)) | (with_reducible exact ty_c)
  | ((with_reducible refine' ty_isi2 ?h1 ?h2 ?h3); (case h1 => tm_at "ty"); (case h2 => decide); (case h3 => decide))
  | ((with_reducible refine' ty_cb ?h1 ?h2); (case h1 => tm_at "tya"); (case h2 => tm_at "cb"))
  | ((with_reducible refine' ty_op ?h1 ?h2 ?h3); (case h1 => tm_at "ty"); (case h2 => tm_at "ty"); (case h3 => tm_at "op"))
  | ((with_reducible refine' ty_un ?h1 ?h2); (case h1 => tm_at "ty"); (case h2 => exact unt_neg))
  | ((with_reducible refine' ty_andV ?h1 ?h2); (case h1 => tm_at "ty"); (case h2 => intro _; tm_at "ty"))
  | ((with_reducible refine' ty_orV ?h1 ?h2); (case h1 => tm_at "ty"); (case h2 => intro _; tm_at "ty"))
  | ((with_reducible refine' ty_notV ?h1); (case h1 => tm_at "ty"))
  | ((with_reducible refine' ty_chain ?h1 ?h2 ?h3 ?h4 ?h5); (case h1 => tm_at "ty"); (case h2 => tm_at "ty"); (case h3 => tm_at "op"); (case h4 => intro _; tm_at "ty"); (case h5 => tm_at "op")))
local macro_rules | `(tactic| tm_at "tt") => `(tactic| first
  | ((with_reducible refine' tt_B ?h1); (case h1 => tm_at "ty"))
  | ((with_reducible refine' tt_test ?h1); (case h1 => tm_at "ty"))
  | ((with_reducible refine' tt_notB ?h1); (case h1 => tm_at "tt"))
  | ((with_reducible refine' tt_andB ?h1 ?h2); (case h1 => tm_at "tt"); (case h2 => intro _; tm_at "tt"))
  | ((with_reducible refine' tt_orB ?h1 ?h2); (case h1 => tm_at "tt"); (case h2 => intro _; tm_at "tt")))
local macro_rules | `(tactic| tm_at "tyis") => `(tactic| (refine' Ty.is ?h1 ?h2; (case h1 => tm_at "ty"); (case h2 => rfl)))
local macro_rules | `(tactic| tm_at "ttis") => `(tactic| (refine' Tt.is ?h1 ?h2; (case h1 => tm_at "tt"); (case h2 => rfl)))
local macro_rules | `(tactic| tm_at "tyad") => `(tactic| (refine' TyA.data ?h1 ?h2; (case h1 => tm_at "tya"); (case h2 => rfl)))
theorem any_sub {W : Wd} {Γ : Gam} {te : TE} {T : Typ} {Ts : List Typ} (h : Ty W Γ te (anyT Ts)) (k : ∀ n, n < Ts.length → ∀ v H, (Ts.getD n (isV .non)).at W v H → T.at W v H) : Ty W Γ te T := h.sub fun v H _ ⟨n, hn, z⟩ => k n hn v H z
theorem rep_getD {T : Typ} {n m : Nat} (h : n < m) : (List.replicate m T).getD n (isV .non) = T := by
  rw [List.getD_eq_getElem?_getD, List.getElem?_replicate, if_pos h]; rfl
theorem tysv4 {M B : Addr → Prop} {A1 A2 A3 A4 : Typ} {us : List V} {H : Hp} (h : TysV M B [A1, A2, A3, A4] us H) : ∃ a b c d, us = [a, b, c, d] ∧ A1.p M B a H ∧ A2.p M B b H ∧ A3.p M B c H ∧ A4.p M B d H := by
  match us, h with
  | [a, b, c, d], h => exact ⟨a, b, c, d, rfl, h.1, h.2.1, h.2.2.1, h.2.2.2.1⟩
/-- around a body nothing is let out -/
theorem takesN0 {X : Cx} : L2N.Takes X (fun _ _ _ _ => False) := fun _ _ x => by
  obtain ⟨_, _, _, _, _, _, _, _, _, _, _, _, _, _, _, _, z⟩ := x
  exact z.elim
/-! ### the classes by their numbers -/
/-- the fields that are read -/
def fdsK (k : Nat) : List Str := if k < 37 then ["given"] else if k = 37 then ["count"] else if k = 38 then ["line"] else if k < 42 then ["tree"] else if k < 46 then ["name"] else if k = 46 then ["one", "other"] else []
/-- the fields of an error made with a value -/
def fsK (k : Nat) (u : V) : List (Str × V) := if k < 37 then [("given", u)] else if k = 37 then [("count", u), ("given", u)] else if k = 38 then [("line", u), ("given", u)] else if k < 42 then [("tree", u), ("given", u)] else if k < 46 then [("name", u), ("given", u)] else [("given", .non)]
/-- an error of the class with a number, made with a value -/
def eoK (K : PySem.W.Frag) (cl : Nat → Addr) (k : Nat) (u : V) : Typ := if k = 46 then exT fun x : V × Addr => anT (eoT (cl 46) [("other", x.1), ("one", u), ("given", .ref x.2)]) (atV x.1 (tupT K [isV u])) else eoT (cl k) (fsK k u)
theorem eoK_ne {K : PySem.W.Frag} {cl : Nat → Addr} {k : Nat} {u : V} (h : k ≠ 46) : eoK K cl k u = eoT (cl k) (fsK k u) := if_neg h
section
variable {W : Wd} {Γ : Gam} {K : PySem.W.Frag} {te : TE} {ta tb : TA} {cl : Nat → Addr} {k n : Nat} {u : V} {tt : TT} {f : Str} {x : Bool} {ts tw : TS} {N : Sx → Hp → Prop} {R : V → Hp → Prop} {Bk Ct : Sx → Hp → Prop}
theorem tys_v1 {M B : Addr → Prop} {vs : List V} {H : Hp} (h : TysV M B [isV u] vs H) : vs = [u] := by
  match vs, h with
  | [a], h => exact congrArg (fun z => [z]) (show a = u from h.1)
/-- made with one value, in one form or another -/
theorem ty_mkG (hk : k < 37) (h : TyA W Γ ta [isV u]) : Ty W Γ (tMkV (cl k) 1 flG1 ta) (eoK K cl k u) := ty_mkV h rfl fun vs fs M B H v hv hf hz => by
  obtain ⟨w, rfl, rfl⟩ := hf
  obtain rfl : w = u := by simpa using tys_v1 hv
  rw [eoK_ne (by omega)]
  unfold fsK
  rw [if_pos hk]
  exact hz
theorem ty_mkO (hk : ¬ k < 37) (e : fsK k u = [(f, u), ("given", u)]) (h6 : k ≠ 46) (h : TyA W Γ ta [isV u]) : Ty W Γ (tMkV (cl k) 1 (flO1 f) ta) (eoK K cl k u) := ty_mkV h rfl fun vs fs M B H v hv hf hz => by
  obtain ⟨w, rfl, rfl⟩ := hf
  obtain rfl : w = u := by simpa using tys_v1 hv
  rw [eoK_ne h6, e]
  exact hz
/-- if k == n: return one if by_name else other -/
theorem tys_made {T : Typ} {t1 t2 : TE} {i j : Nat} (hi : Γ[i]? = some (some (dt K (.int (k : Nat))))) (hj : Γ[j]? = some (some (dt K (.bool x)))) (h1 : k = n → Ty W Γ t1 T) (h2 : k = n → Ty W Γ t2 T) (h3 : k ≠ n → TyS W Γ tw N (rW W T) Bk Ct) :
    TyS W Γ (tSeq (tIfS (tTest (tOp (rEqA K) (tVar i) (tC (.int (n : Nat))))) (tRet (tIf (tB (tVar j)) t1 t2)) tNext) tw) N (rW W T) Bk Ct := by
  refine tys_guard (φ := (· = decide (k = n))) (Tt.is (tt_test (ty_op (ty_var hi) ty_int opt_eqI)) (decide_eq_decide.mpr (by omega))) (fun z => ?_) fun z => h3 (of_decide_eq_false z.symm)
  have e := of_decide_eq_true z.symm
  exact tys_retW (ty_if (φ := fun _ => True) ((tt_B (ty_var hj)).sub fun _ _ => trivial) (fun _ => h1 e) fun _ => h2 e)
end
/-! ### values of any kind -/
inductive Any
  | flat (d : PyData)
  | lst (i : Int)
  | tup
  | dic
def flatD : PyData → Prop
  | .none => True
  | .bool _ => True
  | .int _ => True
  | .str x => x.length ≤ 1000
  | _ => False
def Any.ok : Any → Prop
  | .flat d => flatD d
  | _ => True
def Any.d : Any → PyData
  | .flat d => d
  | .lst i => .list [.int i]
  | .tup => .tuple [.int 1, .list [.int 2]]
  | .dic => .dict [(.str "a", .list [.int 3])]
/-- .. when something was put behind it -/
def Any.g : Any → PyData
  | .flat d => d
  | .lst i => .list [.int i, .str "more"]
  | .tup => .tuple [.int 1, .list [.int 2, .str "more"]]
  | .dic => .dict [(.str "a", .list [.int 3]), (.str "more", .int 1)]
/-- what may grow was not there at H0 -/
def Any.fr (K : PySem.W.Frag) (M : Addr → Prop) (H0 H : Hp) (v : V) : Any → Prop
  | .flat _ => True
  | .lst _ => ∃ p, v = .ref p ∧ H0 p = none
  | .tup => ∃ t p, v = .ref t ∧ H t = some (.tup [.int 1, .ref p]) ∧ H0 p = none ∧ Rp M K H (.ref p) (.list [.int 2])
  | .dic => ∃ p, v = .ref p ∧ H0 p = none
theorem Any.fr_up {K : PySem.W.Frag} {H0 H H' : Hp} {v : V} {M B : Addr → Prop} (e : Exm M B H H') : ∀ {a : Any}, a.fr K M H0 H v → a.fr K M H0 H' v
  | .flat _, h => h
  | .lst _, h => h
  | .tup, ⟨t, p, h1, h2, h3, h4⟩ => ⟨t, p, h1, e.keepT h2 (fun _ z => nomatch z), h3, Rp.up e h4⟩
  | .dic, h => h
theorem Any.fr_back {K : PySem.W.Frag} {H0 H1 H : Hp} {v : V} {M B : Addr → Prop} (e : Ex B H0 H1) : ∀ {a : Any}, a.fr K M H1 H v → a.fr K M H0 H v
  | .flat _, h => h
  | .lst _, ⟨p, h1, h2⟩ => ⟨p, h1, e.free h2⟩
  | .tup, ⟨t, p, h1, h2, h3, h4⟩ => ⟨t, p, h1, h2, e.free h3, h4⟩
  | .dic, ⟨p, h1, h2⟩ => ⟨p, h1, e.free h2⟩
theorem Any.fr_weak {K : PySem.W.Frag} {H0 H : Hp} {v : V} {M : Addr → Prop} {D : Addr} (n : H D = none) : ∀ {a : Any}, a.fr K M H0 H v → a.fr K (Ew.ad M D) H0 H v
  | .flat _, h => h
  | .lst _, h => h
  | .tup, ⟨t, p, h1, h2, h3, h4⟩ => ⟨t, p, h1, h2, h3, Rp.weak n h4⟩
  | .dic, h => h
theorem Any.fr_drop {K : PySem.W.Frag} {H0 H : Hp} {v : V} {M : Addr → Prop} {D : Addr} : ∀ {a : Any}, a.fr K (Ew.ad M D) H0 H v → a.fr K M H0 H v
  | .flat _, h => h
  | .lst _, h => h
  | .tup, ⟨t, p, h1, h2, h3, h4⟩ => ⟨t, p, h1, h2, h3, Rp.drop h4⟩
  | .dic, h => h
/-- such a value, new since H0 -/
def anT0 (K : PySem.W.Frag) (H0 : Hp) (a : Any) : Typ := ⟨fun M _ v H => Rp M K H v a.d ∧ a.fr K M H0 H v, fun e h => ⟨Rp.up e h.1, Any.fr_up e h.2⟩, fun n h => ⟨Rp.weak n h.1, Any.fr_weak n h.2⟩, fun h => ⟨Rp.drop h.1, Any.fr_drop h.2⟩⟩
def rAny (K : PySem.W.Frag) : Res := ⟨fun M B H0 v H => ∃ a : Any, a.ok ∧ (anT0 K H0 a).p M B v H, fun e ⟨a, h1, h2, h3⟩ => ⟨a, h1, h2, Any.fr_back e h3⟩⟩
def anyG (K : PySem.W.Frag) (H0 : Hp) : Typ := exT fun a : Any => gd a.ok (anT0 K H0 a)
section
variable {W : Wd} {Γ : Gam} {K : PySem.W.Frag} {te : TE} {ta : TA} {T : Typ} {φ : Prop} {Bk Ct : Sx → Hp → Prop} {d : PyData} {i : Int}
theorem tys_retS {R : Res} (hφ : φ) (h : Ty W Γ te T) (k : ∀ v H, T.at W v H → R.p W.M W.B W.H0 v H) : TyS W Γ (tRet te) noN (rX W φ R) Bk Ct := fun σ H c g D _ dr _ _ => h σ H c g _ fun v H1 e z => dr v H1 ⟨hφ, (c.up e).ex, k v H1 z⟩
theorem ty_flat (h : Ty W Γ te (dt K d)) (hd : flatD d) : Ty W Γ te (anyG K W.H0) := h.sub fun v H _ z => ⟨.flat d, hd, z, trivial⟩
theorem ty_newL (h : TyA W Γ ta [dt K (.int i)]) : Ty W Γ (tLst ta) (anyG K W.H0) := fun σ H c g Q q =>
  tyl_lst h (by show 1 ≤ 1000000; decide) σ H c g Q fun p xs H1 e hp h1 h2 => q _ H1 e ⟨.lst i, trivial, .lst h1 (c.nm hp) (TysV.data (ds := [.int i]) h2), p, rfl, c.ex.free hp⟩
end
/-! ### what the text says of a class -/
structure ClsF (K : PySem.W.Frag) (mg : Str → Option Value) (nm : Str) (D fJ C : Addr) (fds : List Str) : Prop where
  ct : PySem.WrX.ClsTxt K mg nm D fJ C
  ki : KiC K C
  xf : XfC K C
  no : ∀ f ∈ fds, PySem.W.findIn K (.ref C) f = some none
  mro : ∀ b, PySem.W.mroIn K C b = some ((Value.ref C :: Value.ref D :: PySem.WrX.veTail).contains b)
  ty : PySem.W.typeIn K (.ref C) = some (.type "type")
theorem mro_of {K : PySem.W.Frag} {C N : Addr} {nm q : Str} {bs su bm : List Value} {sn : List Str} {ab : Bool} {col : Option Bool} {dd : Option Addr} {u0 u1 u2 u3 u5 : Option Value} (x : K.lookup C = some (excClassObj nm q C N bs bm true sn su ab col dd u0 u1 u2 u3 u5 "ValueError.__new__")) :
    (PySem.W.clsIn K C).isSome = true ∧ PySem.W.hasDictIn K C = true ∧ (∀ b, PySem.W.mroIn K C b = some ((Value.ref C :: bm).contains b)) ∧ PySem.W.typeIn K (.ref C) = some (.type "type") := by
  have hc : PySem.W.clsIn K C = some { name := nm, bases := bs, mro := .ref C :: bm, ns := N, qualname := q, hasDict := true, slotNames := sn, subclasses := su, abstract := ab, collection := col, hasDel := false } := by unfold PySem.W.clsIn; rw [x] <;> rfl
  refine ⟨by rw [hc]; rfl, by unfold PySem.W.hasDictIn; rw [hc]; rfl, fun b => ?_, ?_⟩
  · unfold PySem.W.mroIn
    rw [hc, Option.bind_some]
    rfl
  · show (K.lookup C).map (·.cls) = _
    rw [x]
    rfl
theorem clsF_of {K : PySem.W.Frag} {mg : Str → Option Value} {C D N fJ : Addr} {cn nm q : Str} {bs su : List Value} {sn : List Str} {ab : Bool} {col : Option Bool} {dd : Option Addr} {u0 u1 u2 u3 u5 : Option Value} {fds : List Str} (a : mg cn = some (.ref C))
    (x : K.lookup C = some (excClassObj nm q C N bs (.ref D :: PySem.WrX.veTail) true sn su ab col dd u0 u1 u2 u3 u5 "ValueError.__new__")) (b : Hd.clsB K C fJ fds = true) (ne : C ≠ D)
    (sp : PySem.W.specialIn K (.builtin "object.__class__") "__get__" = some (some (.builtin "getset_descriptor.__get__"))) (tk : PySem.W.takesIn K (.builtin "object.__class__") = some true) : ClsF K mg cn D fJ C fds := by
  obtain ⟨h1, h2, h3, h4⟩ := mro_of x
  unfold Hd.clsB at b
  simp only [Bool.and_eq_true, beq_iff_eq, List.all_eq_true] at b
  obtain ⟨b1, b2, b3, b4, b5, b6, b7, b8, b9⟩ := b
  have be : PySem.W.subIn K (.ref C) (.type "BaseException") = some true := by
    show PySem.W.mroIn K C _ = _
    rw [h3]
    simp [PySem.WrX.veTail]
  have ve : PySem.W.subIn K (.ref C) (.type "ValueError") = some true := by
    show PySem.W.mroIn K C _ = _
    rw [h3]
    simp [PySem.WrX.veTail]
  have ob : PySem.W.mroIn K C (.type "object") = some true := by
    rw [h3]
    simp [PySem.WrX.veTail]
  exact ⟨⟨a, ⟨_, _, _, _, _, _, _, _, _, _, _, _, _, _, x⟩, b1, b2, b3, b4, b5, be, ve, h4, ne⟩, ⟨h1, b6, b7, be, b8, sp, tk, ob⟩, ⟨b6, b7, be, h2⟩, b9, h3, h4⟩
theorem nodup_get {l : List Addr} (h : l.Nodup) : ∀ {k j : Nat}, k < l.length → j < l.length → l.getD k 0 = l.getD j 0 → k = j := by
  induction l with
  | nil => intro k j hk; cases hk
  | cons x l ih =>
    rw [List.nodup_cons] at h
    intro k j hk hj e
    have mem : ∀ {n : Nat}, n < l.length → l.getD n 0 ∈ l := fun {n} hn => by
      rw [List.getD_eq_getElem?_getD, List.getElem?_eq_getElem hn]
      exact List.getElem_mem hn
    cases k with
    | zero =>
      cases j with
      | zero => rfl
      | succ j =>
        have hj' : j < l.length := by simpa using hj
        have e' : x = l.getD j 0 := by simpa using e
        exact absurd (e' ▸ mem hj') h.1
    | succ k =>
      have hk' : k < l.length := by simpa using hk
      cases j with
      | zero =>
        have e' : l.getD k 0 = x := by simpa using e
        exact absurd (e' ▸ mem hk') h.1
      | succ j =>
        have hj' : j < l.length := by simpa using hj
        rw [ih h.2 hk' hj' (by simpa using e)]
theorem kit_own {K : PySem.W.Frag} {mg mg' : Str → Option Value} {nm nm' : Str} {D fJ fJ' C C' : Addr} {fds fds' : List Str} (F : ClsF K mg nm D fJ C fds) (F' : ClsF K mg' nm' D fJ' C' fds') : PySem.W.kitOne K (.ref C) (.ref C') = some (decide (C = C')) := by
  unfold PySem.W.kitOne
  by_cases e : C = C'
  · subst e
    rw [if_pos (by simp), decide_eq_true rfl]
  · rw [if_neg (by simpa using e), decide_eq_false e]
    show (if ((PySem.W.clsIn K C').isSome && PySem.W.typeIn K (.ref C') == some (.type "type")) = true then PySem.W.subIn K (.ref C) (.ref C') else none) = _
    have hc : ((PySem.W.clsIn K C').isSome && PySem.W.typeIn K (.ref C') == some (.type "type")) = true := by rw [F'.ki.cl, F'.ty]; rfl
    rw [if_pos hc]
    show PySem.W.mroIn K C _ = _
    rw [F.mro]
    have h1 : ¬ C' = C := fun z => e z.symm
    have h2 : ¬ C' = D := F'.ct.ne
    simp [PySem.WrX.veTail, h1, h2]
theorem kit_base {K : PySem.W.Frag} {mg : Str → Option Value} {nm : Str} {D fJ C : Addr} {fds : List Str} (F : ClsF K mg nm D fJ C fds) (hD : (PySem.W.clsIn K D).isSome = true) (tD : PySem.W.typeIn K (.ref D) = some (.type "type")) : PySem.W.kitOne K (.ref C) (.ref D) = some true := by
  unfold PySem.W.kitOne
  rw [if_neg (by simpa using F.ct.ne)]
  show (if ((PySem.W.clsIn K D).isSome && PySem.W.typeIn K (.ref D) == some (.type "type")) = true then PySem.W.subIn K (.ref C) (.ref D) else none) = _
  have hc : ((PySem.W.clsIn K D).isSome && PySem.W.typeIn K (.ref D) == some (.type "type")) = true := by rw [hD, tD]; rfl
  rw [if_pos hc]
  show PySem.W.mroIn K C _ = _
  rw [F.mro]
  simp
theorem kit_ve {K : PySem.W.Frag} {mg : Str → Option Value} {nm : Str} {D fJ C : Addr} {fds : List Str} (F : ClsF K mg nm D fJ C fds) (h : PySem.W.kitMeta "ValueError" = true) : PySem.W.kitOne K (.ref C) (.type "ValueError") = some true := by
  unfold PySem.W.kitOne
  rw [if_neg (by simp)]
  show (if PySem.W.kitMeta "ValueError" = true then PySem.W.subIn K (.ref C) (.type "ValueError") else none) = _
  rw [if_pos h]
  exact F.ct.veC
theorem exm_base {K : PySem.W.Frag} {mg : Str → Option Value} {nm : Str} {D fJ C : Addr} {fds : List Str} (F : ClsF K mg nm D fJ C fds) (hD : (PySem.W.clsIn K D).isSome = true) (tD : PySem.W.typeIn K (.ref D) = some (.type "type")) (bD : PySem.W.subIn K (.ref D) (.type "BaseException") = some true) : PySem.W.exmOne K (.ref C) (.ref D) = some true := by
  have e1 : (PySem.W.subIn K (.ref D) (.type "BaseException") == some true) = true := by rw [bD] <;> rfl
  have e2 : ((PySem.W.clsIn K D).isSome && PySem.W.typeIn K (.ref D) == some (.type "type")) = true := by rw [hD, tD]; rfl
  show (if (PySem.W.subIn K (.ref D) (.type "BaseException") == some true) = true then (if ((PySem.W.clsIn K D).isSome && PySem.W.typeIn K (.ref D) == some (.type "type")) = true then PySem.W.subIn K (.ref C) (.ref D) else none) else none) = some true
  rw [if_pos e1, if_pos e2]
  show PySem.W.mroIn K C _ = _
  rw [F.mro]
  simp
abbrev s_law_box : Stmt := top 52
abbrev s_law_take : Stmt := top 53
abbrev s_law_cell : Stmt := top 54
abbrev s_law_same : Stmt := top 55
abbrev s_law_mixed : Stmt := top 56
abbrev s_law_anything : Stmt := top 57
abbrev s_law_grown : Stmt := top 58
abbrev s_law_still : Stmt := top 59
abbrev s_law_made_0 : Stmt := top 60
abbrev s_law_made_1 : Stmt := top 61
abbrev s_law_classes : Stmt := top 62
abbrev s_law_read : Stmt := top 63
abbrev s_law_raise : Stmt := top 64
abbrev s_law_raised : Stmt := top 65
abbrev s_law_class_right : Stmt := top 66
abbrev s_law : Stmt := top 67
theorem sc_law_box : FnScope ["great"] ["great"] (defScope s_law_box) := ⟨rfl, rfl, rfl, by decide +kernel, rfl, by decide +kernel, by decide +kernel⟩
theorem sc_law_take : FnScope ["box", "many", "digit"] ["box", "many"] (defScope s_law_take) := ⟨rfl, rfl, rfl, by decide +kernel, rfl, by decide +kernel, by decide +kernel⟩
theorem sc_law_cell : FnScope ["script", "k"] ["script", "k"] (defScope s_law_cell) := ⟨rfl, rfl, rfl, by decide +kernel, rfl, by decide +kernel, by decide +kernel⟩
theorem sc_law_same : FnScope ["told", "due", "same", "k"] ["told", "due"] (defScope s_law_same) := ⟨rfl, rfl, rfl, by decide +kernel, rfl, by decide +kernel, by decide +kernel⟩
theorem sc_law_mixed : FnScope ["box", "items", "left", "found", "turn"] ["box", "items"] (defScope s_law_mixed) := ⟨rfl, rfl, rfl, by decide +kernel, rfl, by decide +kernel, by decide +kernel⟩
theorem sc_law_anything : FnScope ["box", "way"] ["box"] (defScope s_law_anything) := ⟨rfl, rfl, rfl, by decide +kernel, rfl, by decide +kernel, by decide +kernel⟩
theorem sc_law_grown : FnScope ["value", "item"] ["value"] (defScope s_law_grown) := ⟨rfl, rfl, rfl, by decide +kernel, rfl, by decide +kernel, by decide +kernel⟩
theorem sc_law_still : FnScope ["told", "due", "key", "k"] ["told", "due"] (defScope s_law_still) := ⟨rfl, rfl, rfl, by decide +kernel, rfl, by decide +kernel, by decide +kernel⟩
theorem sc_law_made_0 : FnScope ["k", "given", "by_name"] ["k", "given", "by_name"] (defScope s_law_made_0) := ⟨rfl, rfl, rfl, by decide +kernel, rfl, by decide +kernel, by decide +kernel⟩
theorem sc_law_made_1 : FnScope ["k", "given", "by_name"] ["k", "given", "by_name"] (defScope s_law_made_1) := ⟨rfl, rfl, rfl, by decide +kernel, rfl, by decide +kernel, by decide +kernel⟩
theorem sc_law_classes : FnScope ["error", "found", "k"] ["error"] (defScope s_law_classes) := ⟨rfl, rfl, rfl, by decide +kernel, rfl, by decide +kernel, by decide +kernel⟩
theorem sc_law_read : FnScope ["k", "error"] ["k", "error"] (defScope s_law_read) := ⟨rfl, rfl, rfl, by decide +kernel, rfl, by decide +kernel, by decide +kernel⟩
theorem sc_law_raise : FnScope ["k", "value"] ["k", "value"] (defScope s_law_raise) := ⟨rfl, rfl, rfl, by decide +kernel, rfl, by decide +kernel, by decide +kernel⟩
theorem sc_law_raised : FnScope ["k", "value", "one"] ["k", "value"] (defScope s_law_raised) := ⟨rfl, rfl, rfl, by decide +kernel, rfl, by decide +kernel, by decide +kernel⟩
theorem sc_law_class_right : FnScope ["box", "k", "by_name", "value", "error", "item"] ["box", "k", "by_name"] (defScope s_law_class_right) := ⟨rfl, rfl, rfl, by decide +kernel, rfl, by decide +kernel, by decide +kernel⟩
theorem sc_law : FnScope ["script", "k", "box", "by_name", "number"] ["script"] (defScope s_law) := ⟨rfl, rfl, rfl, by decide +kernel, rfl, by decide +kernel, by decide +kernel⟩
structure Tx (P : Program) (K : PySem.W.Frag) (mg : Str → Option Value) where
  a_law_box : Addr
  f_law_box : FuncData
  F_law_box : Fun K "_law_box" "_law_box" s_law_box a_law_box f_law_box
  D_law_box : Defn K mg "_law_box" a_law_box f_law_box ["great"]
  a_law_take : Addr
  f_law_take : FuncData
  F_law_take : Fun K "_law_take" "_law_take" s_law_take a_law_take f_law_take
  D_law_take : Defn K mg "_law_take" a_law_take f_law_take ["box", "many"]
  a_law_cell : Addr
  f_law_cell : FuncData
  F_law_cell : Fun K "_law_cell" "_law_cell" s_law_cell a_law_cell f_law_cell
  D_law_cell : Defn K mg "_law_cell" a_law_cell f_law_cell ["script", "k"]
  a_law_same : Addr
  f_law_same : FuncData
  F_law_same : Fun K "_law_same" "_law_same" s_law_same a_law_same f_law_same
  D_law_same : Defn K mg "_law_same" a_law_same f_law_same ["told", "due"]
  a_law_mixed : Addr
  f_law_mixed : FuncData
  F_law_mixed : Fun K "_law_mixed" "_law_mixed" s_law_mixed a_law_mixed f_law_mixed
  D_law_mixed : Defn K mg "_law_mixed" a_law_mixed f_law_mixed ["box", "items"]
  a_law_anything : Addr
  f_law_anything : FuncData
  F_law_anything : Fun K "_law_anything" "_law_anything" s_law_anything a_law_anything f_law_anything
  D_law_anything : Defn K mg "_law_anything" a_law_anything f_law_anything ["box"]
  a_law_grown : Addr
  f_law_grown : FuncData
  F_law_grown : Fun K "_law_grown" "_law_grown" s_law_grown a_law_grown f_law_grown
  D_law_grown : Defn K mg "_law_grown" a_law_grown f_law_grown ["value"]
  a_law_still : Addr
  f_law_still : FuncData
  F_law_still : Fun K "_law_still" "_law_still" s_law_still a_law_still f_law_still
  D_law_still : Defn K mg "_law_still" a_law_still f_law_still ["told", "due"]
  a_law_made_0 : Addr
  f_law_made_0 : FuncData
  F_law_made_0 : Fun K "_law_made_0" "_law_made_0" s_law_made_0 a_law_made_0 f_law_made_0
  D_law_made_0 : Defn K mg "_law_made_0" a_law_made_0 f_law_made_0 ["k", "given", "by_name"]
  a_law_made_1 : Addr
  f_law_made_1 : FuncData
  F_law_made_1 : Fun K "_law_made_1" "_law_made_1" s_law_made_1 a_law_made_1 f_law_made_1
  D_law_made_1 : Defn K mg "_law_made_1" a_law_made_1 f_law_made_1 ["k", "given", "by_name"]
  a_law_classes : Addr
  f_law_classes : FuncData
  F_law_classes : Fun K "_law_classes" "_law_classes" s_law_classes a_law_classes f_law_classes
  D_law_classes : Defn K mg "_law_classes" a_law_classes f_law_classes ["error"]
  a_law_read : Addr
  f_law_read : FuncData
  F_law_read : Fun K "_law_read" "_law_read" s_law_read a_law_read f_law_read
  D_law_read : Defn K mg "_law_read" a_law_read f_law_read ["k", "error"]
  a_law_raise : Addr
  f_law_raise : FuncData
  F_law_raise : Fun K "_law_raise" "_law_raise" s_law_raise a_law_raise f_law_raise
  D_law_raise : Defn K mg "_law_raise" a_law_raise f_law_raise ["k", "value"]
  a_law_raised : Addr
  f_law_raised : FuncData
  F_law_raised : Fun K "_law_raised" "_law_raised" s_law_raised a_law_raised f_law_raised
  D_law_raised : Defn K mg "_law_raised" a_law_raised f_law_raised ["k", "value"]
  a_law_class_right : Addr
  f_law_class_right : FuncData
  F_law_class_right : Fun K "_law_class_right" "_law_class_right" s_law_class_right a_law_class_right f_law_class_right
  D_law_class_right : Defn K mg "_law_class_right" a_law_class_right f_law_class_right ["box", "k", "by_name"]
  a_law : Addr
  f_law : FuncData
  F_law : Fun K "law" "law" s_law a_law f_law
  D_law : Defn K mg "law" a_law f_law ["script"]
  aW : Addr
  cl : Nat → Addr
  gW : mg "WrapError" = some (.ref aW)
  m_ValueError : mg "ValueError" = none
  gC_0 : mg "InvalidNumber" = some (.ref (cl 0))
  kC_0 : PySem.W.keepIn K (.ref (cl 0)) = true
  md_0 : ∀ w, MadeOk P w K mg (cl 0) mkP 1 flG1
  mk_0 : ∀ w, MadeOk P w K mg (cl 0) (mkK ["given"]) 1 flG1
  gC_1 : mg "InvalidNumbers" = some (.ref (cl 1))
  kC_1 : PySem.W.keepIn K (.ref (cl 1)) = true
  md_1 : ∀ w, MadeOk P w K mg (cl 1) mkP 1 flG1
  mk_1 : ∀ w, MadeOk P w K mg (cl 1) (mkK ["given"]) 1 flG1
  gC_2 : mg "InvalidModulus" = some (.ref (cl 2))
  kC_2 : PySem.W.keepIn K (.ref (cl 2)) = true
  md_2 : ∀ w, MadeOk P w K mg (cl 2) mkP 1 flG1
  mk_2 : ∀ w, MadeOk P w K mg (cl 2) (mkK ["given"]) 1 flG1
  gC_3 : mg "InvalidPrime" = some (.ref (cl 3))
  kC_3 : PySem.W.keepIn K (.ref (cl 3)) = true
  md_3 : ∀ w, MadeOk P w K mg (cl 3) mkP 1 flG1
  mk_3 : ∀ w, MadeOk P w K mg (cl 3) (mkK ["given"]) 1 flG1
  gC_4 : mg "InvalidRests" = some (.ref (cl 4))
  kC_4 : PySem.W.keepIn K (.ref (cl 4)) = true
  md_4 : ∀ w, MadeOk P w K mg (cl 4) mkP 1 flG1
  mk_4 : ∀ w, MadeOk P w K mg (cl 4) (mkK ["given"]) 1 flG1
  gC_5 : mg "InvalidBound" = some (.ref (cl 5))
  kC_5 : PySem.W.keepIn K (.ref (cl 5)) = true
  md_5 : ∀ w, MadeOk P w K mg (cl 5) mkP 1 flG1
  mk_5 : ∀ w, MadeOk P w K mg (cl 5) (mkK ["given"]) 1 flG1
  gC_6 : mg "InvalidCount" = some (.ref (cl 6))
  kC_6 : PySem.W.keepIn K (.ref (cl 6)) = true
  md_6 : ∀ w, MadeOk P w K mg (cl 6) mkP 1 flG1
  mk_6 : ∀ w, MadeOk P w K mg (cl 6) (mkK ["given"]) 1 flG1
  gC_7 : mg "InvalidWidth" = some (.ref (cl 7))
  kC_7 : PySem.W.keepIn K (.ref (cl 7)) = true
  md_7 : ∀ w, MadeOk P w K mg (cl 7) mkP 1 flG1
  mk_7 : ∀ w, MadeOk P w K mg (cl 7) (mkK ["given"]) 1 flG1
  gC_8 : mg "InvalidLine" = some (.ref (cl 8))
  kC_8 : PySem.W.keepIn K (.ref (cl 8)) = true
  md_8 : ∀ w, MadeOk P w K mg (cl 8) mkP 1 flG1
  mk_8 : ∀ w, MadeOk P w K mg (cl 8) (mkK ["given"]) 1 flG1
  gC_9 : mg "InvalidLines" = some (.ref (cl 9))
  kC_9 : PySem.W.keepIn K (.ref (cl 9)) = true
  md_9 : ∀ w, MadeOk P w K mg (cl 9) mkP 1 flG1
  mk_9 : ∀ w, MadeOk P w K mg (cl 9) (mkK ["given"]) 1 flG1
  gC_10 : mg "InvalidLattice" = some (.ref (cl 10))
  kC_10 : PySem.W.keepIn K (.ref (cl 10)) = true
  md_10 : ∀ w, MadeOk P w K mg (cl 10) mkP 1 flG1
  mk_10 : ∀ w, MadeOk P w K mg (cl 10) (mkK ["given"]) 1 flG1
  gC_11 : mg "InvalidTable" = some (.ref (cl 11))
  kC_11 : PySem.W.keepIn K (.ref (cl 11)) = true
  md_11 : ∀ w, MadeOk P w K mg (cl 11) mkP 1 flG1
  mk_11 : ∀ w, MadeOk P w K mg (cl 11) (mkK ["given"]) 1 flG1
  gC_12 : mg "InvalidGoal" = some (.ref (cl 12))
  kC_12 : PySem.W.keepIn K (.ref (cl 12)) = true
  md_12 : ∀ w, MadeOk P w K mg (cl 12) mkP 1 flG1
  mk_12 : ∀ w, MadeOk P w K mg (cl 12) (mkK ["given"]) 1 flG1
  gC_13 : mg "InvalidPolynomial" = some (.ref (cl 13))
  kC_13 : PySem.W.keepIn K (.ref (cl 13)) = true
  md_13 : ∀ w, MadeOk P w K mg (cl 13) mkP 1 flG1
  mk_13 : ∀ w, MadeOk P w K mg (cl 13) (mkK ["given"]) 1 flG1
  gC_14 : mg "InvalidDegrees" = some (.ref (cl 14))
  kC_14 : PySem.W.keepIn K (.ref (cl 14)) = true
  md_14 : ∀ w, MadeOk P w K mg (cl 14) mkP 1 flG1
  mk_14 : ∀ w, MadeOk P w K mg (cl 14) (mkK ["given"]) 1 flG1
  gC_15 : mg "InvalidItem" = some (.ref (cl 15))
  kC_15 : PySem.W.keepIn K (.ref (cl 15)) = true
  md_15 : ∀ w, MadeOk P w K mg (cl 15) mkP 1 flG1
  mk_15 : ∀ w, MadeOk P w K mg (cl 15) (mkK ["given"]) 1 flG1
  gC_16 : mg "InvalidItems" = some (.ref (cl 16))
  kC_16 : PySem.W.keepIn K (.ref (cl 16)) = true
  md_16 : ∀ w, MadeOk P w K mg (cl 16) mkP 1 flG1
  mk_16 : ∀ w, MadeOk P w K mg (cl 16) (mkK ["given"]) 1 flG1
  gC_17 : mg "InvalidNodes" = some (.ref (cl 17))
  kC_17 : PySem.W.keepIn K (.ref (cl 17)) = true
  md_17 : ∀ w, MadeOk P w K mg (cl 17) mkP 1 flG1
  mk_17 : ∀ w, MadeOk P w K mg (cl 17) (mkK ["given"]) 1 flG1
  gC_18 : mg "InvalidKinds" = some (.ref (cl 18))
  kC_18 : PySem.W.keepIn K (.ref (cl 18)) = true
  md_18 : ∀ w, MadeOk P w K mg (cl 18) mkP 1 flG1
  mk_18 : ∀ w, MadeOk P w K mg (cl 18) (mkK ["given"]) 1 flG1
  gC_19 : mg "InvalidName" = some (.ref (cl 19))
  kC_19 : PySem.W.keepIn K (.ref (cl 19)) = true
  md_19 : ∀ w, MadeOk P w K mg (cl 19) mkP 1 flG1
  mk_19 : ∀ w, MadeOk P w K mg (cl 19) (mkK ["given"]) 1 flG1
  gC_20 : mg "InvalidTree" = some (.ref (cl 20))
  kC_20 : PySem.W.keepIn K (.ref (cl 20)) = true
  md_20 : ∀ w, MadeOk P w K mg (cl 20) mkP 1 flG1
  mk_20 : ∀ w, MadeOk P w K mg (cl 20) (mkK ["given"]) 1 flG1
  gC_21 : mg "InvalidContext" = some (.ref (cl 21))
  kC_21 : PySem.W.keepIn K (.ref (cl 21)) = true
  md_21 : ∀ w, MadeOk P w K mg (cl 21) mkP 1 flG1
  mk_21 : ∀ w, MadeOk P w K mg (cl 21) (mkK ["given"]) 1 flG1
  gC_22 : mg "InvalidPattern" = some (.ref (cl 22))
  kC_22 : PySem.W.keepIn K (.ref (cl 22)) = true
  md_22 : ∀ w, MadeOk P w K mg (cl 22) mkP 1 flG1
  mk_22 : ∀ w, MadeOk P w K mg (cl 22) (mkK ["given"]) 1 flG1
  gC_23 : mg "InvalidPlace" = some (.ref (cl 23))
  kC_23 : PySem.W.keepIn K (.ref (cl 23)) = true
  md_23 : ∀ w, MadeOk P w K mg (cl 23) mkP 1 flG1
  mk_23 : ∀ w, MadeOk P w K mg (cl 23) (mkK ["given"]) 1 flG1
  gC_24 : mg "InvalidStandings" = some (.ref (cl 24))
  kC_24 : PySem.W.keepIn K (.ref (cl 24)) = true
  md_24 : ∀ w, MadeOk P w K mg (cl 24) mkP 1 flG1
  mk_24 : ∀ w, MadeOk P w K mg (cl 24) (mkK ["given"]) 1 flG1
  gC_25 : mg "InvalidBook" = some (.ref (cl 25))
  kC_25 : PySem.W.keepIn K (.ref (cl 25)) = true
  md_25 : ∀ w, MadeOk P w K mg (cl 25) mkP 1 flG1
  mk_25 : ∀ w, MadeOk P w K mg (cl 25) (mkK ["given"]) 1 flG1
  gC_26 : mg "InvalidText" = some (.ref (cl 26))
  kC_26 : PySem.W.keepIn K (.ref (cl 26)) = true
  md_26 : ∀ w, MadeOk P w K mg (cl 26) mkP 1 flG1
  mk_26 : ∀ w, MadeOk P w K mg (cl 26) (mkK ["given"]) 1 flG1
  gC_27 : mg "InvalidCounts" = some (.ref (cl 27))
  kC_27 : PySem.W.keepIn K (.ref (cl 27)) = true
  md_27 : ∀ w, MadeOk P w K mg (cl 27) mkP 1 flG1
  mk_27 : ∀ w, MadeOk P w K mg (cl 27) (mkK ["given"]) 1 flG1
  gC_28 : mg "InvalidRules" = some (.ref (cl 28))
  kC_28 : PySem.W.keepIn K (.ref (cl 28)) = true
  md_28 : ∀ w, MadeOk P w K mg (cl 28) mkP 1 flG1
  mk_28 : ∀ w, MadeOk P w K mg (cl 28) (mkK ["given"]) 1 flG1
  gC_29 : mg "InvalidEnds" = some (.ref (cl 29))
  kC_29 : PySem.W.keepIn K (.ref (cl 29)) = true
  md_29 : ∀ w, MadeOk P w K mg (cl 29) mkP 1 flG1
  mk_29 : ∀ w, MadeOk P w K mg (cl 29) (mkK ["given"]) 1 flG1
  gC_30 : mg "InvalidProgram" = some (.ref (cl 30))
  kC_30 : PySem.W.keepIn K (.ref (cl 30)) = true
  md_30 : ∀ w, MadeOk P w K mg (cl 30) mkP 1 flG1
  mk_30 : ∀ w, MadeOk P w K mg (cl 30) (mkK ["given"]) 1 flG1
  gC_31 : mg "InvalidOther" = some (.ref (cl 31))
  kC_31 : PySem.W.keepIn K (.ref (cl 31)) = true
  md_31 : ∀ w, MadeOk P w K mg (cl 31) mkP 1 flG1
  mk_31 : ∀ w, MadeOk P w K mg (cl 31) (mkK ["given"]) 1 flG1
  gC_32 : mg "InvalidStanding" = some (.ref (cl 32))
  kC_32 : PySem.W.keepIn K (.ref (cl 32)) = true
  md_32 : ∀ w, MadeOk P w K mg (cl 32) mkP 1 flG1
  mk_32 : ∀ w, MadeOk P w K mg (cl 32) (mkK ["given"]) 1 flG1
  gC_33 : mg "InvalidLadder" = some (.ref (cl 33))
  kC_33 : PySem.W.keepIn K (.ref (cl 33)) = true
  md_33 : ∀ w, MadeOk P w K mg (cl 33) mkP 1 flG1
  mk_33 : ∀ w, MadeOk P w K mg (cl 33) (mkK ["given"]) 1 flG1
  gC_34 : mg "InvalidCode" = some (.ref (cl 34))
  kC_34 : PySem.W.keepIn K (.ref (cl 34)) = true
  md_34 : ∀ w, MadeOk P w K mg (cl 34) mkP 1 flG1
  mk_34 : ∀ w, MadeOk P w K mg (cl 34) (mkK ["given"]) 1 flG1
  gC_35 : mg "InvalidAnswers" = some (.ref (cl 35))
  kC_35 : PySem.W.keepIn K (.ref (cl 35)) = true
  md_35 : ∀ w, MadeOk P w K mg (cl 35) mkP 1 flG1
  mk_35 : ∀ w, MadeOk P w K mg (cl 35) (mkK ["given"]) 1 flG1
  gC_36 : mg "InvalidClaim" = some (.ref (cl 36))
  kC_36 : PySem.W.keepIn K (.ref (cl 36)) = true
  md_36 : ∀ w, MadeOk P w K mg (cl 36) mkP 1 flG1
  mk_36 : ∀ w, MadeOk P w K mg (cl 36) (mkK ["given"]) 1 flG1
  gC_37 : mg "TooMany" = some (.ref (cl 37))
  kC_37 : PySem.W.keepIn K (.ref (cl 37)) = true
  md_37 : ∀ w, MadeOk P w K mg (cl 37) mkP 1 (flO1 "count")
  mk_37 : ∀ w, MadeOk P w K mg (cl 37) (mkK ["count"]) 1 (flO1 "count")
  gC_38 : mg "Unread" = some (.ref (cl 38))
  kC_38 : PySem.W.keepIn K (.ref (cl 38)) = true
  md_38 : ∀ w, MadeOk P w K mg (cl 38) mkP 1 (flO1 "line")
  mk_38 : ∀ w, MadeOk P w K mg (cl 38) (mkK ["line"]) 1 (flO1 "line")
  gC_39 : mg "NotWhole" = some (.ref (cl 39))
  kC_39 : PySem.W.keepIn K (.ref (cl 39)) = true
  md_39 : ∀ w, MadeOk P w K mg (cl 39) mkP 1 (flO1 "tree")
  mk_39 : ∀ w, MadeOk P w K mg (cl 39) (mkK ["tree"]) 1 (flO1 "tree")
  gC_40 : mg "Rest" = some (.ref (cl 40))
  kC_40 : PySem.W.keepIn K (.ref (cl 40)) = true
  md_40 : ∀ w, MadeOk P w K mg (cl 40) mkP 1 (flO1 "tree")
  mk_40 : ∀ w, MadeOk P w K mg (cl 40) (mkK ["tree"]) 1 (flO1 "tree")
  gC_41 : mg "Apart" = some (.ref (cl 41))
  kC_41 : PySem.W.keepIn K (.ref (cl 41)) = true
  md_41 : ∀ w, MadeOk P w K mg (cl 41) mkP 1 (flO1 "tree")
  mk_41 : ∀ w, MadeOk P w K mg (cl 41) (mkK ["tree"]) 1 (flO1 "tree")
  gC_42 : mg "Growing" = some (.ref (cl 42))
  kC_42 : PySem.W.keepIn K (.ref (cl 42)) = true
  md_42 : ∀ w, MadeOk P w K mg (cl 42) mkP 1 (flO1 "name")
  mk_42 : ∀ w, MadeOk P w K mg (cl 42) (mkK ["name"]) 1 (flO1 "name")
  gC_43 : mg "Missing" = some (.ref (cl 43))
  kC_43 : PySem.W.keepIn K (.ref (cl 43)) = true
  md_43 : ∀ w, MadeOk P w K mg (cl 43) mkP 1 (flO1 "name")
  mk_43 : ∀ w, MadeOk P w K mg (cl 43) (mkK ["name"]) 1 (flO1 "name")
  gC_44 : mg "Taken" = some (.ref (cl 44))
  kC_44 : PySem.W.keepIn K (.ref (cl 44)) = true
  md_44 : ∀ w, MadeOk P w K mg (cl 44) mkP 1 (flO1 "name")
  mk_44 : ∀ w, MadeOk P w K mg (cl 44) (mkK ["name"]) 1 (flO1 "name")
  gC_45 : mg "InUse" = some (.ref (cl 45))
  kC_45 : PySem.W.keepIn K (.ref (cl 45)) = true
  md_45 : ∀ w, MadeOk P w K mg (cl 45) mkP 1 (flO1 "name")
  mk_45 : ∀ w, MadeOk P w K mg (cl 45) (mkK ["name"]) 1 (flO1 "name")
  gC_46 : mg "Unlike" = some (.ref (cl 46))
  kC_46 : PySem.W.keepIn K (.ref (cl 46)) = true
  md_46 : ∀ w, MadeOk P w K mg (cl 46) mkP 2 flU2
  mk_46 : ∀ w, MadeOk P w K mg (cl 46) (mkK ["other", "one"]) 2 flU2k
  gC_47 : mg "NothingToUndo" = some (.ref (cl 47))
  kC_47 : PySem.W.keepIn K (.ref (cl 47)) = true
  md_47 : ∀ w, MadeOk P w K mg (cl 47) mkP 0 flN0
  gC_48 : mg "NothingToRedo" = some (.ref (cl 48))
  kC_48 : PySem.W.keepIn K (.ref (cl 48)) = true
  md_48 : ∀ w, MadeOk P w K mg (cl 48) mkP 0 flN0
  ki : ∀ k, k < 49 → KiC K (cl k)
  xf : ∀ k, k < 49 → XfC K (cl k)
  no : ∀ k, k < 49 → ∀ f ∈ fdsK k, PySem.W.findIn K (.ref (cl k)) f = some none
  kt : ∀ k j, k < 49 → j < 49 → PySem.W.kitOne K (.ref (cl k)) (.ref (cl j)) = some (decide (k = j))
  kW : ∀ k, k < 49 → PySem.W.kitOne K (.ref (cl k)) (.ref aW) = some true
  kV : ∀ k, k < 49 → PySem.W.kitOne K (.ref (cl k)) (.type "ValueError") = some true
  ew : ∀ k, k < 49 → PySem.W.exmOne K (.ref (cl k)) (.ref aW) = some true
  sb_0 : PySem.W.subIn K (.ref (cl 0)) (.type "BaseException") = some true
  ty_0 : PySem.W.typeIn K (.ref (cl 0)) = some (.type "type")
  sb_37 : PySem.W.subIn K (.ref (cl 37)) (.type "BaseException") = some true
  ty_37 : PySem.W.typeIn K (.ref (cl 37)) = some (.type "type")
  sb_46 : PySem.W.subIn K (.ref (cl 46)) (.type "BaseException") = some true
  ty_46 : PySem.W.typeIn K (.ref (cl 46)) = some (.type "type")
  sb_47 : PySem.W.subIn K (.ref (cl 47)) (.type "BaseException") = some true
  ty_47 : PySem.W.typeIn K (.ref (cl 47)) = some (.type "type")
  sb_48 : PySem.W.subIn K (.ref (cl 48)) (.type "BaseException") = some true
  ty_48 : PySem.W.typeIn K (.ref (cl 48)) = some (.type "type")
  m_isinstance : mg "isinstance" = none
  m_int : mg "int" = none
  m_bool : mg "bool" = none
  m_str : mg "str" = none
  m_list : mg "list" = none
  m_tuple : mg "tuple" = none
  m_dict : mg "dict" = none
  m_len : mg "len" = none
  m_sum : mg "sum" = none
  m_range : mg "range" = none
  m_abs : mg "abs" = none
  m_max : mg "max" = none
  m_min : mg "min" = none
section
variable {P : Program} {w : World} {K : PySem.W.Frag} {mg : Str → Option Value} {base : Heap}
abbrev absI (g : Int) : Int := if g < 0 then -g else g
def boxTs (K : PySem.W.Frag) (g : Int) : List Typ := [dt K (.int (absI g)), dt K (.bool (decide ((10 : Int) ^ (18 : Int).toNat ≤ absI g))), dt K (.int (absI g % 2147483629)), dt K (.int 0)]
def sp_law_box (K : PySem.W.Frag) : Sp := spL (fun _ : Int => True) (fun g => [dt K (.int g)]) (boxTs K)
theorem boxTs_box {K : PySem.W.Frag} {M B : Addr → Prop} {g : Int} {xs : List V} {H : Hp} (h : TysV M B (boxTs K g) xs H) : BxL xs := by
  match xs, h with
  | [a, b, c, d], h =>
    obtain ⟨h1, h2, h3, h4, _⟩ := h
    cases h1; cases h2; cases h3; cases h4
    exact ⟨_, _, _, _, rfl, by omega, by omega⟩
theorem ok_law_box (T : Tx P K mg) : FnOk P w K mg base (L2.CX P w) 1 T.a_law_box T.f_law_box ["great"] (sp_law_box K) := by
  have nd := sc_law_box.nd
  refine fn_tyL T.F_law_box sc_law_box (fun x _ => rfl) fun cdv Ar outer s H E hr => ⟨_, (pss_one (ps_ret (pe_lst (pa_cons (bi_abs T.m_abs (pa_cons (pv 0) pa_nil)) (pa_cons (pe_cmpR op_ge (bi_abs T.m_abs (pa_cons (pv 0) pa_nil)) (pe_op op_pow pe_int pe_int) (nomark _)) (pa_cons (pe_op op_mod (bi_int T.m_int (pa_cons (bi_abs T.m_abs (pa_cons (pv 0) pa_nil)) pa_nil)) pe_int) (pa_cons pe_int pa_nil))))))), fun W x hC => ?_⟩
  exact TyS.never (tys_retL (tyl_lst (Ts := boxTs K x) (by unfold boxTs; tm_at "tya") (by show 4 ≤ 1000000; decide)))
end
section
variable {P : Program} {w : World} {K : PySem.W.Frag} {mg : Str → Option Value} {base : Heap}
def sp_law_take (K : PySem.W.Frag) : Sp := spT (fun n : Nat => 0 < n ∧ n ≤ 1000000) (fun n => [bx, dt K (.int (n : Nat))]) (fun n => digT K n)
theorem ix4 (a b c d : V) : atI [a, b, c, d] 0 = some a ∧ atI [a, b, c, d] 1 = some b ∧ atI [a, b, c, d] 2 = some c ∧ atI [a, b, c, d] 3 = some d := ⟨atI_nat (j := 0) rfl, atI_nat (j := 1) rfl, atI_nat (j := 2) rfl, atI_nat (j := 3) rfl⟩
theorem dig_of {K : PySem.W.Frag} {M B : Addr → Prop} {H : Hp} {n : Nat} {i : Int} (h0 : 0 ≤ i) (h1 : i < n) : (digT K n).p M B (.int i) H := by
  refine ⟨i.toNat, by omega, ?_⟩
  have e : ((i.toNat : Nat) : Int) = i := Int.toNat_of_nonneg h0
  show Rp M K H (.int i) (.int ((i.toNat : Nat) : Int))
  rw [e]; exact .int i
theorem ok_law_take (T : Tx P K mg) : FnOk P w K mg base (L2.CX P w) 1 T.a_law_take T.f_law_take ["box", "many"] (sp_law_take K) := by
  have nd := sc_law_take.nd
  refine fn_ty T.F_law_take sc_law_take (fun x _ => rfl) fun cdv Ar outer s H E hr => ⟨_, (pss_cons (ps_if (PW.pt (pw_and (pt_val (pe_ix (k_ix (K := K) rfl) (pv 0) pe_int (fun _ _ => rfl))) (pw_and1 (pt_cmpR op_gt (pe_ix (k_ix (K := K) rfl) (pv 0) pe_int (fun _ _ => rfl)) pe_int (nomark _))))) (pss_cons (pset 2 nd (pe_op op_mod (bi_int T.m_int (pa_cons (pe_ix (k_ix (K := K) rfl) (pv 0) pe_int (fun _ _ => rfl)) pa_nil)) (pv 1)))
    (pss_cons (ps_asg (pe_op op_divA (bi_int T.m_int (pa_cons (pe_ix (k_ix (K := K) rfl) (pv 0) pe_int (fun _ _ => rfl)) pa_nil)) (pv 1)) (pg_sub (pv 0) pe_int set_list))
    (pss_one (ps_ret (pv 2))))) pss_nil)
    (pss_cons (ps_asg (pe_op (k_add (K := K) rfl) (pe_ix (k_ix (K := K) rfl) (pv 0) pe_int (fun _ _ => rfl)) pe_int) (pg_sub (pv 0) pe_int set_list))
    (pss_cons (ps_asg (pe_op op_mod (pe_op (k_add (K := K) rfl) (pe_op (k_add (K := K) rfl) (pe_op op_mulA (pe_ix (k_ix (K := K) rfl) (pv 0) pe_int (fun _ _ => rfl)) pe_int) (pe_op op_mulA pe_int (pe_ix (k_ix (K := K) rfl) (pv 0) pe_int (fun _ _ => rfl)))) pe_int) pe_int) (pg_sub (pv 0) pe_int set_list))
    (pss_one (ps_ret (pe_op op_mod (pe_op op_divA (pe_ix (k_ix (K := K) rfl) (pv 0) pe_int (fun _ _ => rfl)) pe_int) (pv 1))))))), fun W x hC => ?_⟩
  obtain ⟨n0, n1⟩ := hC
  intro σ H c g D dn dr db dc
  obtain ⟨_, g1, g2⟩ : ∃ z : σ.length = 3, (∃ u, σ[0]? = some (some u) ∧ bx.p W.M W.B u H) ∧ (∃ u, σ[1]? = some (some u) ∧ (dt K (.int (x : Nat))).p W.M W.B u H) := ⟨g.length, g.get (i := 0) rfl, g.get (i := 1) rfl⟩
  obtain ⟨u, s0, p, rfl, hB, xs, hH, gr, b, cc, k, rfl, c0, c1⟩ := g1
  obtain ⟨u, s1, hu⟩ := g2
  cases hu
  obtain ⟨i0, i1, i2, i3⟩ := ix4 (.int gr) (.bl b) (.int cc) (.int k)
  have box : BoxAt H p := ⟨_, hH, gr, b, cc, k, rfl, c0, c1⟩
  have gt : ∀ {Q : Bool → Hp → Prop}, Q (b && decide (0 < gr)) H → tAnd (tB (tOp (rIx K) (tVar 0) (tC (.int 1)))) (tTest (tOp (rI0 fun i j => .bl (decide (j < i))) (tOp (rIx K) (tVar 0) (tC (.int 0))) (tC (.int 0)))) σ H Q := fun {Q} q => by
    refine Ev.tbl (ev_ix hH i1 (ev_var s0) ev_c) ?_
    cases b with
    | true => rw [if_pos rfl]; exact Ev.tt (ev_I0 (ev_ix hH i0 (ev_var s0) ev_c) ev_c) (by simpa using q)
    | false => rw [if_neg Bool.false_ne_true]; simpa using q
  refine gt ?_
  cases hb : (b && decide (0 < gr)) with
  | true =>
    rw [if_pos rfl]
    refine ev_I (i := gr) (j := (x : Int)) (by omega) (ev_int (ev_ix hH i0 (ev_var s0) ev_c)) (ev_var s1) _ ?_
    have t0 : (σ.set 2 (some (.int (gr % (x : Int)))))[0]? = some (some (.ref p)) := by rw [List.getElem?_set_ne (by decide)]; exact s0
    have t1 : (σ.set 2 (some (.int (gr % (x : Int)))))[1]? = some (some (.int (x : Int))) := by rw [List.getElem?_set_ne (by decide)]; exact s1
    have t2 : (σ.set 2 (some (.int (gr % (x : Int)))))[2]? = some (some (.int (gr % (x : Int)))) := List.getElem?_set_self (by have gl : σ.length = 3 := g.length; rw [gl]; decide)
    refine ev_put (k := 0) (ev_div (i := gr) (j := (x : Int)) ⟨by omega, ?_⟩ (ev_int (ev_ix hH i0 (ev_var t0) ev_c)) (ev_var t1)) (ev_var t0) ev_c hH rfl ?_
    · have l := Nat.log2_le_self x
      have e : ((x : Int)).natAbs = x := rfl
      rw [e]
      have : x.log2 < 64 := by
        by_cases z : x = 0
        · omega
        · have big : (1000000 : Nat) < 2 ^ 64 := by decide
          exact (Nat.log2_lt z).mpr (by omega)
      omega
    refine ev_var t2 _ (dr _ _ ⟨c.ex.trans (Ex.turn hB box ⟨_, _, _, _, rfl, c0, c1⟩), ?_⟩)
    exact dig_of (Int.emod_nonneg _ (by omega)) (Int.emod_lt_of_pos _ (by omega))
  | false =>
    rw [if_neg Bool.false_ne_true]
    refine ev_put (k := 3) (ev_add (ev_ix hH i3 (ev_var s0) ev_c) ev_c) (ev_var s0) ev_c hH rfl ?_
    obtain ⟨j0, j1, j2, j3⟩ := ix4 (.int gr) (.bl b) (.int cc) (.int (k + 1))
    have hH1 : upd H p (.lst ([V.int gr, .bl b, .int cc, .int k].set 3 (.int (k + 1)))) p = some (.lst [.int gr, .bl b, .int cc, .int (k + 1)]) := upd_same
    refine ev_put (k := 2) (ev_I (by omega) (ev_add (ev_add (ev_mul (.inr ⟨by decide, by decide⟩) (ev_ix hH1 j2 (ev_var s0) ev_c) ev_c) (ev_mul (.inl ⟨by decide, by decide⟩) ev_c (ev_ix hH1 j3 (ev_var s0) ev_c))) ev_c) ev_c) (ev_var s0) ev_c hH1 rfl ?_
    obtain ⟨m0, m1, m2, m3⟩ := ix4 (.int gr) (.bl b) (.int ((cc * 69621 + 1433 * (k + 1) + 29) % 2147483629)) (.int (k + 1))
    refine ev_I (i := (cc * 69621 + 1433 * (k + 1) + 29) % 2147483629 / 64) (j := (x : Int)) (by omega) (ev_div ⟨by decide, by decide⟩ (ev_ix upd_same m2 (ev_var s0) ev_c) ev_c) (ev_var s1) _ (dr _ _ ⟨?_, ?_⟩)
    · have e1 : Ex W.B H (upd H p (.lst [V.int gr, .bl b, .int cc, .int (k + 1)])) := Ex.turn hB box ⟨_, _, _, _, rfl, c0, c1⟩
      exact c.ex.trans (e1.trans (Ex.turn hB ⟨_, upd_same, _, _, _, _, rfl, c0, c1⟩ ⟨_, _, _, _, rfl, by omega, by omega⟩))
    · exact dig_of (Int.emod_nonneg _ (by omega)) (Int.emod_lt_of_pos _ (by omega))
end
section
variable {P : Program} {w : World} {K : PySem.W.Frag} {mg : Str → Option Value} {base : Heap}
def intT (K : PySem.W.Frag) : Typ := exT fun i : Int => dt K (.int i)
/-- the script, as the law is called with it: no one may write to it -/
def SqF (K : PySem.W.Frag) (H : Hp) (a : Addr) (xs : List V) : Prop :=
  (∃ o, H a = some (.frz o (.lst xs))) ∨ ∃ (o : Obj) (its : Array Value) (n : Nat), K.lookup a = some o ∧ o.cls = .type "list" ∧ o.dict = none ∧ o.data = .seq its n ∧ its.size ≤ sizeLine ∧ Vals xs its.toList
theorem SqF.sq {K : PySem.W.Frag} {H : Hp} {a : Addr} {xs : List V} (h : SqF K H a xs) : SqL K H a xs := h.elim (fun ⟨o, h⟩ => .inl (.inr ⟨o, h⟩)) .inr
def scrT (K : PySem.W.Frag) (ns : List Int) : Typ := ⟨fun _ _ v H => ∃ a, v = .ref a ∧ SqF K H a (ns.map V.int), fun e ⟨a, h1, h2⟩ => ⟨a, h1, h2.elim (fun ⟨o, h⟩ => .inl ⟨o, e.keepT h fun _ z => nomatch z⟩) .inr⟩, fun _ h => h, fun h => h⟩
theorem cbt_lenScr {W : Wd} {K : PySem.W.Frag} {ns : List Int} : CbT W (Ew.rLen K) [scrT K ns] (dt K (.int (ns.length : Nat))) := fun us H c hu Q q => by
  obtain ⟨v, rfl, a, rfl, h⟩ := hu.one
  exact ⟨_, ns.length, rfl, .inl ⟨_, h.sq, by rw [List.length_map]⟩, q _ H (Ex.refl _ _) (.int _)⟩
theorem opt_ixScr {W : Wd} {K : PySem.W.Frag} {ns : List Int} {n : Nat} {z : Int} (e : ns[n]? = some z) : OpT W (rIx K) (scrT K ns) (dt K (.int (n : Nat))) (dt K (.int z)) := fun u v H c ⟨a, h1, h2⟩ hv Q q => by
  subst h1
  cases hv
  exact .inl ⟨a, _, (n : Int), .int z, rfl, rfl, h2.sq, atI_nat (by rw [List.getElem?_map, e]; rfl), q _ H (Ex.refl _ _) (.int _)⟩
theorem tys_of_ints {M B : Addr → Prop} {K : PySem.W.Frag} {H : Hp} : ∀ ns : List Int, TysV M B (ns.map fun n => dt K (.int n)) (ns.map V.int) H
  | [] => True.intro
  | n :: ns => ⟨.int n, tys_of_ints ns⟩
theorem cutV_ints (ns : List Int) (lo hi : Option Int) : cutV (ns.map V.int) lo hi = (cutD ns lo hi).map V.int := by
  unfold cutV cutD
  rw [List.length_map, ← List.map_drop, ← List.map_take]
theorem ty_slScr {W : Wd} {Γ : Gam} {K : PySem.W.Frag} {ns : List Int} {te : TE} {tl th : TO} {lo hi : Option Int} (h : Ty W Γ te (scrT K ns)) (hl : TyO W Γ tl lo) (hh : TyO W Γ th hi) : Ty W Γ (tSl (rSlAll K) te tl th) (lstT ((cutD ns lo hi).map fun n => dt K (.int n))) := fun σ H c g Q q =>
  h σ H c g _ fun v H1 e1 hv => hl σ H1 (c.up e1) (g.up e1.toW) _ fun H2 e2 => hh σ H2 (c.up (e1.trans e2)) (g.up (e1.trans e2).toW) _ fun H3 e3 => by
    obtain ⟨a, rfl, h2⟩ := (scrT K ns).up (e2.trans e3).toW hv
    have e13 := e1.trans (e2.trans e3)
    exact .inl ⟨a, _, rfl, h2.sq, fun p hp => q _ _ (e13.trans (Ex.new hp)) ⟨p, _, rfl, c.nm (e13.free hp), upd_same, by rw [cutV_ints]; exact tys_of_ints _⟩⟩
def sp_law_cell (K : PySem.W.Frag) : Sp := spT (fun x : List Int × Nat => x.2 ≤ 1000) (fun x => [scrT K x.1, dt K (.int (x.2 : Nat))]) (fun _ => intT K)
theorem ok_law_cell (T : Tx P K mg) : FnOk P w K mg base (L2.CX P w) 1 T.a_law_cell T.f_law_cell ["script", "k"] (sp_law_cell K) := by
  have nd := sc_law_cell.nd
  refine fn_ty T.F_law_cell sc_law_cell (fun x _ => rfl) fun cdv Ar outer s H E hr => ⟨_, (pss_one (ps_ret (pe_ifExp (pt_cmpR op_lt (pv 1) (k_len (K := K) rfl T.m_len (pa_cons (pv 0) pa_nil)) (nomark _)) (pe_ix (k_ix (K := K) rfl) (pv 0) (pv 1) (fun _ _ => rfl)) (pe_op (k_add (K := K) rfl) (pe_op op_mulA pe_int (pv 1)) (pe_op op_mod (bi_int T.m_int (pa_cons (k_sum (K := K) rfl T.m_sum (pa_cons (pe_slice (k_sl (K := K) rfl) (pv 0) po_none (po_some pe_int)) pa_nil)) pa_nil)) pe_int))))), fun W x hC => ?_⟩
  obtain ⟨l, n⟩ := x
  dsimp only at hC
  refine TyS.never (tys_retW (ty_if (φ := (· = decide ((n : Int) < (l.length : Nat)))) (tt_test (ty_op (ty_var rfl) (ty_cb (tya_cons (ty_var rfl) tya_nil) cbt_lenScr) opt_lt)) (fun z => ?_) fun z => ?_))
  · have hn : n < l.length := by
      have z1 := of_decide_eq_true z.symm
      omega
    exact Ty.ex (l[n]) (ty_op (ty_var rfl) (ty_var rfl) (opt_ixScr (List.getElem?_eq_getElem hn)))
  · exact Ty.ex (A := fun i : Int => dt K (.int i)) _ (ty_op (ty_op ty_int (ty_var rfl) (opt_mul (.inl ⟨by decide, by decide⟩))) (ty_op (ty_cb (tya_cons (ty_cb (tya_cons (ty_slScr (ty_var rfl) tyo_none (tyo_some (ty_int (K := K)))) tya_nil) cbt_sum) tya_nil) cbt_intI) ty_int (opt_mod (by decide))) opt_add)
end
section
variable {P : Program} {w : World} {K : PySem.W.Frag} {mg : Str → Option Value} {base : Heap}
/-- what is compared: no deeper than n, nothing too long, no dict -/
def smOk : Nat → PyData → Prop
  | 0, _ => False
  | n + 1, .list ds => ds.length ≤ 1000 ∧ ∀ e ∈ ds, smOk n e
  | n + 1, .tuple ds => ds.length ≤ 1000 ∧ ∀ e ∈ ds, smOk n e
  | _ + 1, .str x => x.length ≤ 1000
  | _ + 1, .dict _ => False
  | _ + 1, _ => True
def sr_law_same (K : PySem.W.Frag) (n : Nat) : Sp := spT (smOk n) (fun d => [dt K d, dt K d]) (fun _ => dt K (.bool true))
def sp_law_same (K : PySem.W.Frag) : Sp := sr_law_same K 8
theorem cutS_one {z : Str} {k c : Nat} (h : z.cps.toList[k]? = some c) : cutS z (some (k : Int)) (some ((k : Int) + 1)) = ⟨#[c]⟩ := by
  have hk : k < z.cps.toList.length := (List.getElem?_eq_some_iff.mp h).1
  have hl : z.cps.toList.length = z.length := rfl
  unfold cutS
  have e1 : HT.sIx z.length 0 (some (k : Int)) = k := by rw [HT.sIx_nat]; omega
  have e2 : HT.sIx z.length z.length (some ((k : Int) + 1)) = k + 1 := by
    have e3 : ((k : Int) + 1) = ((k + 1 : Nat) : Int) := rfl
    rw [e3, HT.sIx_nat]; omega
  rw [e1, e2]
  have e4 : k + 1 - k = 1 := by omega
  rw [e4, List.drop_eq_getElem_cons hk, List.take_succ_cons, List.take_zero]
  have e5 := (List.getElem?_eq_some_iff.mp h).2
  rw [e5]
theorem okr_law_same (T : Tx P K mg) : ∀ n : Nat, FnOk P w K mg base (L2.CX P w) (0 + n) T.a_law_same T.f_law_same ["told", "due"] (sr_law_same K n)
  | 0 => ⟨fun vs H Q E ⟨_, _, _, _, _, _, z, _⟩ => z.elim, fun A outer s H args us vs Q E _ _ _ _ ⟨_, _, _, _, _, _, z, _⟩ => z.elim⟩
  | n + 1 => by
    have G_law_same := okr_law_same T n
    have nd := sc_law_same.nd
    refine fn_ty T.F_law_same sc_law_same (fun x _ => rfl) fun cdv Ar outer s H E hr => ⟨_, (pss_cons (ps_if (PW.pt (pw_or (pt_cmpR op_isN (pv 1) pe_non (nomark _)) (pw_or1 (pt_val (k_isi (K := K) rfl T.m_isinstance (pa_cons (pv 1) (pa_cons (bt_bool T.m_bool) pa_nil))))))) (pss_one (ps_ret (pe_ifExp (pt_cmpR op_isN (pv 1) pe_non (nomark _)) (pe_cmpR op_isN (pv 0) pe_non (nomark _)) (pe_and (k_isi (K := K) rfl T.m_isinstance (pa_cons (pv 0) (pa_cons (bt_bool T.m_bool) pa_nil))) (pe_one (pe_cmpR (k_eq (K := K) rfl hr.units) (pe_cmpR op_isBl (pv 0) pe_bl (nomark _)) (pe_cmpR op_isBl (pv 1) pe_bl (nomark _)) (nomark _))))))) pss_nil)
    (pss_cons (ps_if (pt_val (k_isi (K := K) rfl T.m_isinstance (pa_cons (pv 1) (pa_cons (bt_int T.m_int) pa_nil)))) (pss_one (ps_ret (pe_and (k_isi (K := K) rfl T.m_isinstance (pa_cons (pv 0) (pa_cons (bt_int T.m_int) pa_nil))) (pe_and (pe_not (k_isi (K := K) rfl T.m_isinstance (pa_cons (pv 0) (pa_cons (bt_bool T.m_bool) pa_nil)))) (pe_one (pe_cmpR (k_eq (K := K) rfl hr.units) (pe_op op_sub (bi_int T.m_int (pa_cons (pv 0) pa_nil)) (pv 1)) pe_int (nomark _))))))) pss_nil)
    (pss_cons (ps_if (pt_val (k_isi (K := K) rfl T.m_isinstance (pa_cons (pv 1) (pa_cons (bt_str T.m_str) pa_nil)))) (pss_cons (pset 2 nd (pe_and (k_isi (K := K) rfl T.m_isinstance (pa_cons (pv 0) (pa_cons (bt_str T.m_str) pa_nil))) (pe_one (pe_cmpR (k_eq (K := K) rfl hr.units) (k_len (K := K) rfl T.m_len (pa_cons (pv 0) pa_nil)) (k_len (K := K) rfl T.m_len (pa_cons (pv 1) pa_nil)) (nomark _)))))
    (pss_one (ps_ret (pe_and (pv 2) (pe_one (pe_cmpR (k_eq (K := K) rfl hr.units) (plc [("k", 3)] nd (pi_range1 rfl T.m_range (pa_cons (k_len (K := K) rfl T.m_len (pa_cons (pv 1) pa_nil)) pa_nil)) (fun _ _ _ _ _ => (pgn 3 nd)) (fun _ _ _ _ _ => (pts_one (pt_cmpR (k_ne (K := K) rfl hr.units) (pe_slice (k_sl (K := K) rfl) (pv 0) (po_some (pv 3)) (po_some (pe_op (k_add (K := K) rfl) (pv 3) pe_int))) (pe_ix (k_ix (K := K) rfl) (pv 1) (pv 3) (fun _ _ => rfl)) (nomark _)))) (fun _ _ _ _ _ => (pv 3)) (by kernel_rfl)) (pe_lst pa_nil) (nomark _))))))) pss_nil)
    (pss_cons (ps_if (PW.pt (pw_or (pt_cmpR (k_ne (K := K) rfl hr.units) (k_isi (K := K) rfl T.m_isinstance (pa_cons (pv 0) (pa_cons (bt_list T.m_list) pa_nil))) (k_isi (K := K) rfl T.m_isinstance (pa_cons (pv 1) (pa_cons (bt_list T.m_list) pa_nil))) (nomark _)) (pw_or (pt_not (pt_val (k_isi2 (K := K) rfl T.m_isinstance (pa_cons (pv 0) (pa_cons (pe_tup (pa_cons (bt_list T.m_list) (pa_cons (bt_tuple T.m_tuple) pa_nil))) pa_nil))))) (pw_or1 (pt_cmpR (k_ne (K := K) rfl hr.units) (k_len (K := K) rfl T.m_len (pa_cons (pv 0) pa_nil)) (k_len (K := K) rfl T.m_len (pa_cons (pv 1) pa_nil)) (nomark _)))))) (pss_one (ps_ret pe_bl)) pss_nil)
    (pss_one (ps_ret (pe_cmpR (k_eq (K := K) rfl hr.units) (plc [("k", 3)] nd (pi_range1 rfl T.m_range (pa_cons (k_len (K := K) rfl T.m_len (pa_cons (pv 1) pa_nil)) pa_nil)) (fun _ _ _ _ _ => (pgn 3 nd)) (fun _ _ _ _ _ => (pts_one (pt_not (pt_val (pcall G_law_same hr T.D_law_same (pa_cons (pe_ix (k_ix (K := K) rfl) (pv 0) (pv 3) (fun _ _ => rfl)) (pa_cons (pe_ix (k_ix (K := K) rfl) (pv 1) (pv 3) (fun _ _ => rfl)) pa_nil))))))) (fun _ _ _ _ _ => (pv 3)) (by kernel_rfl)) (pe_lst pa_nil) (nomark _)))))))), fun W x hC => ?_⟩
    cases x with
    | none =>
      refine tys_guard (φ := (· = true)) (tt_orTr (by tm_at "ttis")) (fun _ => tys_retW (ty_if (φ := (· = true)) (by tm_at "ttis") (fun _ => by tm_at "tyis") fun z => Bool.noConfusion z)) (fun z => Bool.noConfusion z)
    | bool b =>
      refine tys_guard (φ := (· = true)) (by tm_at "ttis") (fun _ => tys_retW (ty_if (φ := (· = false)) (by tm_at "ttis") (fun z => Bool.noConfusion z) fun _ => ?_)) (fun z => Bool.noConfusion z)
      refine' Ty.is ?h1 ?h2
      case h1 => tm_at "ty"
      case h2 => cases b <;> rfl
    | int i =>
      refine tys_guard (φ := (· = false)) (by tm_at "ttis") (fun z => Bool.noConfusion z) (fun _ => tys_guard (φ := (· = true)) (by tm_at "ttis") (fun _ => tys_retW ?_) (fun z => Bool.noConfusion z))
      refine' Ty.is ?h1 ?h2
      case h1 => tm_at "ty"
      case h2 => simp [isD, tyD]
    | str z =>
      have hz : z.length ≤ 1000 := hC
      refine tys_guard (φ := (· = false)) (by tm_at "ttis") (fun z => Bool.noConfusion z) (fun _ => tys_guard (φ := (· = false)) (by tm_at "ttis") (fun z => Bool.noConfusion z) (fun _ => tys_guard (φ := (· = true)) (by tm_at "ttis") (fun _ => ?_) (fun z => Bool.noConfusion z)))
      refine tys_seqE (W' := W) (Γ' := [some (dt K (.str z)), some (dt K (.str z)), some (dt K (.bool true)), none]) (tys_set (Ty.is (ty_andV (a := true) (b := true) (by tm_at "tyis") fun _ => Ty.is (ty_op (ty_cb (tya_cons (ty_var rfl) tya_nil) (cbt_lenS (by omega))) (ty_cb (tya_cons (ty_var rfl) tya_nil) (cbt_lenS (by omega))) opt_eqI) (by simp)) rfl)) (tys_retW (Ty.is (ty_andV (a := true) (b := true) (ty_var rfl) fun _ => ty_op (ty_lstG (f := fun k : Nat => .int (k : Nat)) (xs := (List.range z.length).filter fun _ => false) ?_ |>.is ?_) (ty_lstD (ds := []) tya_nil (by decide)) opt_eqL0) rfl))
      · refine tyl_filter (fun k : Nat => dt K (.int (k : Nat))) (fun k : Nat => dt K (.int (k : Nat))) (fun _ => false) (tyi_rng (n := z.length) (tya_cons (ty_cb (tya_cons (ty_var rfl) tya_nil) (cbt_lenS (by omega))) tya_nil) (by omega)) (by rw [List.length_range]; omega) (by decide) fun W' k hk => ⟨?_, fun z => Bool.noConfusion z⟩
        have hk' : k < z.cps.toList.length := List.mem_range.mp hk
        have hc := List.getElem?_eq_getElem hk'
        exact Tt.is (tt_test (ty_op (ty_slS (by omega) (ty_var rfl) (tyo_some (ty_var rfl)) (tyo_some (ty_op (ty_var rfl) ty_int opt_add))) (ty_op (ty_var rfl) (ty_var rfl) (opt_ixS (by omega) (atI_nat hc))) opt_neS)) (by rw [cutS_one hc]; simp)
      · simp
    | list ds =>
      obtain ⟨h1, h2⟩ : ds.length ≤ 1000 ∧ ∀ e ∈ ds, smOk n e := hC
      refine tys_guard (φ := (· = false)) (by tm_at "ttis") (fun z => Bool.noConfusion z) (fun _ => tys_guard (φ := (· = false)) (by tm_at "ttis") (fun z => Bool.noConfusion z) (fun _ => tys_guard (φ := (· = false)) (by tm_at "ttis") (fun z => Bool.noConfusion z) fun _ => tys_guard (φ := (· = false)) ?_ (fun z => Bool.noConfusion z) fun _ => TyS.never (tys_retW (ty_op (ty_lstG (f := fun k : Nat => .int (k : Nat)) (xs := (List.range ds.length).filter fun _ => false) ?_ |>.is ?_) (ty_lstD (ds := []) tya_nil (by decide)) opt_eqL0))))
      · refine' Tt.is ?h1 ?h2
        case h1 => tm_at "tt"
        case h2 => simp [isD, tyD]
      · refine tyl_filter (fun k : Nat => dt K (.int (k : Nat))) (fun k : Nat => dt K (.int (k : Nat))) (fun _ => false) (tyi_rng (n := ds.length) (tya_cons (ty_cb (tya_cons (ty_var rfl) tya_nil) cbt_lenL) tya_nil) (by omega)) (by rw [List.length_range]; omega) (by decide) fun W' k hk => ⟨?_, fun z => Bool.noConfusion z⟩
        have hk' : k < ds.length := List.mem_range.mp hk
        have e := List.getElem?_eq_getElem hk'
        exact Tt.is (tt_notB (tt_B (ty_call (ds[k]) (h2 _ (List.getElem_mem hk')) (tya_cons (ty_op (ty_var rfl) (ty_var rfl) (opt_ixL (atI_nat e))) (tya_cons (ty_op (ty_var rfl) (ty_var rfl) (opt_ixL (atI_nat e))) tya_nil))))) rfl
      · simp
    | tuple ds =>
      obtain ⟨h1, h2⟩ : ds.length ≤ 1000 ∧ ∀ e ∈ ds, smOk n e := hC
      refine tys_guard (φ := (· = false)) (by tm_at "ttis") (fun z => Bool.noConfusion z) (fun _ => tys_guard (φ := (· = false)) (by tm_at "ttis") (fun z => Bool.noConfusion z) (fun _ => tys_guard (φ := (· = false)) (by tm_at "ttis") (fun z => Bool.noConfusion z) fun _ => tys_guard (φ := (· = false)) ?_ (fun z => Bool.noConfusion z) fun _ => TyS.never (tys_retW (ty_op (ty_lstG (f := fun k : Nat => .int (k : Nat)) (xs := (List.range ds.length).filter fun _ => false) ?_ |>.is ?_) (ty_lstD (ds := []) tya_nil (by decide)) opt_eqL0))))
      · refine' Tt.is ?h1 ?h2
        case h1 => tm_at "tt"
        case h2 => simp [isD, tyD]
      · refine tyl_filter (fun k : Nat => dt K (.int (k : Nat))) (fun k : Nat => dt K (.int (k : Nat))) (fun _ => false) (tyi_rng (n := ds.length) (tya_cons (ty_cb (tya_cons (ty_var rfl) tya_nil) cbt_lenT) tya_nil) (by omega)) (by rw [List.length_range]; omega) (by decide) fun W' k hk => ⟨?_, fun z => Bool.noConfusion z⟩
        have hk' : k < ds.length := List.mem_range.mp hk
        have e := List.getElem?_eq_getElem hk'
        exact Tt.is (tt_notB (tt_B (ty_call (ds[k]) (h2 _ (List.getElem_mem hk')) (tya_cons (ty_op (ty_var rfl) (ty_var rfl) (opt_ixT (atI_nat e))) (tya_cons (ty_op (ty_var rfl) (ty_var rfl) (opt_ixT (atI_nat e))) tya_nil))))) rfl
      · simp
    | dict kvs => exact (show False from hC).elim
theorem ok_law_same (T : Tx P K mg) : FnOk P w K mg base (L2.CX P w) 8 T.a_law_same T.f_law_same ["told", "due"] (sp_law_same K) := okr_law_same T 8
end
section
variable {P : Program} {w : World} {K : PySem.W.Frag} {mg : Str → Option Value} {base : Heap}
/-- two lists of one's own: so many ints of ns are left at D1, others of ns stand at D2 -/
def Wd.mix (W : Wd) (D1 D2 : Addr) (n1 : ¬ W.B D1) (n2 : ¬ W.B D2) (ns : List Int) (n : Nat) : Wd where
  M := Ew.ad (Ew.ad W.M D1) D2
  B := W.B
  H0 := W.H0
  Ω := fun H => (∃ xs : List Int, H D1 = some (.lst (xs.map V.int)) ∧ xs.length = n ∧ ∀ x ∈ xs, x ∈ ns) ∧ ∃ ys : List Int, H D2 = some (.lst (ys.map V.int)) ∧ ys.length + n = ns.length ∧ ∀ y ∈ ys, y ∈ ns
  sub := fun a h => .inl (.inl (W.sub a h))
  kept := fun e ⟨⟨xs, h1, h2⟩, ys, h3, h4⟩ => ⟨⟨xs, e.keep h1 n1, h2⟩, ys, e.keep h3 n2, h4⟩
theorem Wd.mix_like {W : Wd} {D1 D2 : Addr} {n1 : ¬ W.B D1} {n2 : ¬ W.B D2} {ns : List Int} {n m : Nat} : (Wd.mix W D1 D2 n1 n2 ns n).Like (Wd.mix W D1 D2 n1 n2 ns m) := ⟨rfl, rfl⟩
def intsL (ns : List Int) : PyData := .list (ns.map .int)
theorem ints_rp {M : Addr → Prop} {K : PySem.W.Frag} {H : Hp} : ∀ ns : List Int, RpA M K H (ns.map V.int) (ns.map .int)
  | [] => .nil
  | n :: ns => .cons (.int n) (ints_rp ns)
theorem ints_tys {M B : Addr → Prop} {K : PySem.W.Frag} {H : Hp} : ∀ {ns : List Int} {xs : List V}, TysV M B (ns.map fun n => dt K (.int n)) xs H → xs = ns.map V.int
  | [], [], _ => rfl
  | n :: ns, x :: xs, h => by
    obtain ⟨h1, h2⟩ := h
    cases h1
    rw [ints_tys h2]; rfl
  | [], _ :: _, h => h.elim
  | _ :: _, [], h => h.elim
section
variable {W : Wd} {Γ : Gam} {K : PySem.W.Frag} {D1 D2 : Addr} {n1 : ¬ W.B D1} {n2 : ¬ W.B D2} {ns : List Int} {n : Nat} {R : V → Hp → Prop} {Bk Ct : Sx → Hp → Prop} {i : Nat}
theorem ty_mixL (h2 : Γ[i]? = some (some (isV (.ref D1)))) : Ty (Wd.mix W D1 D2 n1 n2 ns n) Γ (tCB (Ew.rLen K) (tCons (tVar i) tNil)) (dt K (.int (n : Nat))) := fun σ H c g Q q => by
  obtain ⟨v, k1, k2⟩ := g.get h2
  have k2 : v = .ref D1 := k2
  subst k2
  obtain ⟨⟨xs, x1, x2, _⟩, _⟩ := c.own
  exact ⟨.ref D1, k1, _, n, rfl, .inl ⟨_, SqL.of x1, by rw [List.length_map, x2]⟩, q _ H (Ex.refl _ _) (.int _)⟩
theorem mem_erase {α : Type} {x : α} : ∀ {l : List α} {k : Nat}, x ∈ l.eraseIdx k → x ∈ l
  | [], _, h => h
  | _ :: _, 0, h => List.mem_cons_of_mem _ h
  | y :: l, k + 1, h => (List.mem_cons.mp h).elim (fun e => by rw [e]; exact List.mem_cons_self) fun z => List.mem_cons_of_mem _ (mem_erase z)
theorem erase_map {α β : Type} {f : α → β} : ∀ (l : List α) (k : Nat), (l.map f).eraseIdx k = (l.eraseIdx k).map f
  | [], _ => rfl
  | _ :: _, 0 => rfl
  | x :: l, k + 1 => by
    show f x :: (l.map f).eraseIdx k = f x :: (l.eraseIdx k).map f
    rw [erase_map l k]
/-- found.append(left.pop(take(box, len(left)))) -/
theorem tys_popApp {te : TE} (h01 : W.H0 D1 = none) (h02 : W.H0 D2 = none) (d12 : D1 ≠ D2) (hl : ns.length ≤ 1000) (g2 : Γ[2]? = some (some (isV (.ref D1)))) (g3 : Γ[3]? = some (some (isV (.ref D2)))) (ht : Ty (Wd.mix W D1 D2 n1 n2 ns (n + 1)) Γ te (digT K (n + 1))) :
    TyS (Wd.mix W D1 D2 n1 n2 ns (n + 1)) Γ (tDrop (tBM K "list" rAppend (tVar 3) (tCons (tBM K "list" rPopAt (tVar 2) (tCons te tNil)) tNil))) (nE (Wd.mix W D1 D2 n1 n2 ns n) Γ) R Bk Ct := fun σ H c g E dn dr db dc => by
  obtain ⟨v3, s3, e3⟩ := g.get g3
  have e3 : v3 = .ref D2 := e3
  subst e3
  obtain ⟨v2, s2, e2⟩ := g.get g2
  have e2 : v2 = .ref D1 := e2
  subst e2
  obtain ⟨⟨xs0, x01, _⟩, ys0, y01, _⟩ := c.own
  refine ⟨.ref D2, s3, .inl ⟨rfl, _, SqL.of y01⟩, .ref D1, s2, .inl ⟨rfl, _, SqL.of x01⟩, ht σ H c g _ fun v H1 e1 ⟨k, hk, hv⟩ => ?_⟩
  cases hv
  have c1 := c.up e1
  obtain ⟨⟨xs, x1, x2, x3⟩, ys, y1, y2, y3⟩ := c1.own
  have hk' : k < xs.length := by rw [x2]; exact hk
  have hm : xs[k] ∈ ns := x3 _ (List.getElem_mem hk')
  refine ⟨D1, xs.map V.int, (k : Int), k, V.int xs[k], rfl, rfl, x1, by omega, by omega, ?_, by rw [List.getElem?_map, List.getElem?_eq_getElem hk']; rfl, ?_⟩
  · have q : k < (xs.map V.int).length := by rw [List.length_map]; exact hk'
    unfold seqIndex?
    simp
    omega
  have er : (xs.map V.int).eraseIdx k = (xs.eraseIdx k).map V.int := erase_map xs k
  rw [er]
  have y1' : upd H1 D1 (.lst ((xs.eraseIdx k).map V.int)) D2 = some (.lst (ys.map V.int)) := by rw [upd_ne (Ne.symm d12)]; exact y1
  have p1 : Exm (Ew.ad (Ew.ad W.M D1) D2) W.B H1 (upd H1 D1 (.lst ((xs.eraseIdx k).map V.int))) := Exm.put (.inl (.inr rfl)) n1 x1
  have p2 : Exm (Ew.ad (Ew.ad W.M D1) D2) W.B (upd H1 D1 (.lst ((xs.eraseIdx k).map V.int))) (upd (upd H1 D1 (.lst ((xs.eraseIdx k).map V.int))) D2 (.lst ((ys ++ [xs[k]]).map V.int))) := Exm.put (.inr rfl) n2 y1'
  have mapa : ys.map V.int ++ [V.int xs[k]] = (ys ++ [xs[k]]).map V.int := by rw [List.map_append]; rfl
  refine ⟨D2, ys.map V.int, V.int xs[k], rfl, rfl, y1', sz_lt (by rw [List.length_map]; omega), ?_⟩
  rw [mapa]
  have e1' : Exm (Ew.ad (Ew.ad W.M D1) D2) W.B H H1 := Ex.toM e1 fun a h => .inl (.inl (W.sub a h))
  have all := e1'.trans (p1.trans p2)
  have ne1 : ∀ a, W.B a → a ≠ D1 := fun a h z => n1 (z ▸ h)
  have ne2 : ∀ a, W.B a → a ≠ D2 := fun a h z => n2 (z ▸ h)
  refine dn σ _ all ⟨⟨fun a h => ?_, fun a h => ?_, (c1.ex.mut h01).mut h02, ⟨xs.eraseIdx k, ?_, ?_, fun x hx => x3 x (mem_erase hx)⟩, ys ++ [xs[k]], upd_same, ?_, fun y hy => ?_⟩, g.up all⟩
  · obtain ⟨zs, z1, z2⟩ := c1.box a h
    exact ⟨zs, by rw [upd_ne (ne2 a h), upd_ne (ne1 a h)]; exact z1, z2⟩
  · by_cases q2 : a = D2
    · rw [q2, upd_same]; intro z; cases z
    · rw [upd_ne q2]
      by_cases q1 : a = D1
      · rw [q1, upd_same]; intro z; cases z
      · rw [upd_ne q1]
        exact c1.al a h
  · rw [upd_ne d12]; exact upd_same
  · rw [List.length_eraseIdx, if_pos hk', x2]; rfl
  · rw [List.length_append, List.length_singleton]; omega
  · rcases List.mem_append.mp hy with z | z
    · exact y3 y z
    · rw [List.mem_singleton.mp z]; exact hm
end
def sp_law_mixed (K : PySem.W.Frag) : Sp := spT (fun ns : List Int => ns.length ≤ 1000) (fun ns => [bx, dt K (intsL ns)]) (fun ns => exT fun ms : List Int => gd (ms.length ≤ 1000 ∧ ∀ m ∈ ms, m ∈ ns) (dt K (intsL ms)))
theorem ok_law_mixed (T : Tx P K mg) : FnOk P w K mg base (L2.CX P w) 2 T.a_law_mixed T.f_law_mixed ["box", "items"] (sp_law_mixed K) := by
  have G_law_take := ok_law_take (w := w) (base := base) T
  have nd := sc_law_mixed.nd
  refine fn_ty T.F_law_mixed sc_law_mixed (fun x _ => rfl) fun cdv Ar outer s H E hr => ⟨_, (pss_cons (ps_par (i := 2) (j := 3) rfl nd rfl rfl (by decide) rfl rfl (pa_cons (k_list (K := K) rfl T.m_list (pa_cons (pv 1) pa_nil)) (pa_cons (pe_lst pa_nil) pa_nil)) (by rfl))
    (pss_cons (ps_for PassesOwn.never rfl (pi_range1 rfl T.m_range (pa_cons (k_len (K := K) rfl T.m_len (pa_cons (pv 2) pa_nil)) pa_nil)) (pgn 4 nd) (pss_one (ps_expr (k_append (K := K) rfl (pv 3) (pa_cons (k_popAt (K := K) rfl (pv 2) (pa_cons (pcall G_law_take (hr.mono (by decide)) T.D_law_take (pa_cons (pv 0) (pa_cons (k_len (K := K) rfl T.m_len (pa_cons (pv 2) pa_nil)) pa_nil))) pa_nil)) pa_nil)))))
    (pss_one (ps_ret (pv 3))))), fun W x hC => ?_⟩
  have hl : x.length ≤ 1000 := hC
  show TyS W [some bx, some (dt K (intsL x)), none, none, none] _ _ _ _ _
  refine TyS.never fun σ H c g E dn dr db dc => ?_
  have L1 : TyL W [some bx, some (dt K (intsL x)), none, none, none] (tCB (rLstOf K) (tCons (tVar 1) tNil)) (x.map fun n => dt K (.int n)) := by
    have z := tyl_cb (W := W) (Γ := [some bx, some (dt K (intsL x)), none, none, none]) (tya_cons ((ty_var (i := 1) (T := dt K (intsL x)) rfl).sub fun _ _ _ => data_lstT (ds := x.map .int)) tya_nil) (cbl_lstL (K := K))
    rw [List.map_map] at z
    exact z
  have L2 : TyL W [some bx, some (dt K (intsL x)), none, none, none] (tLst tNil) [] := tyl_lst (Ts := []) tya_nil (by decide)
  refine L1 σ H c g _ fun D1 xs H1 e1 h1 h2 h3 => L2 σ H1 (c.up e1) (g.up e1.toW) _ fun D2 ys H2 e2 k1 k2 k3 => ⟨.ref D1, .ref D2, rfl, ?_⟩
  obtain rfl := ints_tys h3
  obtain rfl : ys = [] := List.eq_nil_of_length_eq_zero k3.length
  have hD2 : H D2 = none := e1.free k1
  have d12 : D1 ≠ D2 := ne_of_none h2 k1
  have nb1 : ¬ W.B D1 := c.nb h1
  have nb2 : ¬ W.B D2 := c.nb hD2
  have c2 := c.up (e1.trans e2)
  have x1 : H2 D1 = some (.lst (x.map V.int)) := e2.keep h2 nb1
  have al : ∀ a, (Ew.ad (Ew.ad W.M D1) D2) a → H2 a ≠ none := fun a z => by
    rcases z with (z | z) | z
    · exact c2.al a z
    · rw [z, x1]; intro q; cases q
    · rw [z, k2]; intro q; cases q
  have cm : Cxt (Wd.mix W D1 D2 nb1 nb2 x x.length) H2 := ⟨c2.box, al, c2.ex, ⟨x, x1, rfl, fun _ z => z⟩, [], k2, by simp, fun _ z => (List.not_mem_nil z).elim⟩
  have g1 : EnvL (Ew.ad (Ew.ad W.M D1) D2) W.B [some bx, some (dt K (intsL x)), none, none, none] σ H2 := (EnvL.weak (show H D2 = none from hD2) (EnvL.weak h1 g)).up ((e1.trans e2).toM fun a h => .inl (.inl (W.sub a h)))
  have g2 : EnvL (Ew.ad (Ew.ad W.M D1) D2) W.B [some bx, some (dt K (intsL x)), some (isV (.ref D1)), some (isV (.ref D2)), none] ((σ.set 2 (some (.ref D1))).set 3 (some (.ref D2))) H2 := EnvL.set (T := isV (.ref D2)) (i := 3) rfl (EnvL.set (T := isV (.ref D1)) (i := 2) rfl g1)
  have h01 : W.H0 D1 = none := c.ex.free h1
  have h02 : W.H0 D2 = none := c.ex.free hD2
  have nm2 : ¬ W.M D2 := c.nm hD2
  have tail : TyS (Wd.mix W D1 D2 nb1 nb2 x x.length) [some bx, some (dt K (intsL x)), some (isV (.ref D1)), some (isV (.ref D2)), none] (tSeq (tFor (iRng1 (tCons (tCB (Ew.rLen K) (tCons (tVar 2) tNil)) tNil)) (gName 4) (tDrop (tBM K "list" rAppend (tVar 3) (tCons (tBM K "list" rPopAt (tVar 2) (tCons (tCall (sp_law_take K) [] E0 (tCons (tVar 0) (tCons (tCB (Ew.rLen K) (tCons (tVar 2) tNil)) tNil))) tNil)) tNil)))) (tRet (tVar 3))) noN (rW W (exT fun ms : List Int => gd (ms.length ≤ 1000 ∧ ∀ m ∈ ms, m ∈ x) (dt K (intsL ms)))) noN noN := by
    refine tys_seq (N := nE (Wd.mix W D1 D2 nb1 nb2 x 0) [some bx, none, some (isV (.ref D1)), some (isV (.ref D2)), none]) ?_ fun σ H n => ⟨Wd.mix W D1 D2 nb1 nb2 x 0, _, ⟨rfl, rfl⟩, n, fun σ H c g D _ dr _ _ => ?_⟩
    · have hi : TyI (Wd.mix W D1 D2 nb1 nb2 x x.length) [some bx, some (dt K (intsL x)), some (isV (.ref D1)), some (isV (.ref D2)), none] (iRng1 (tCons (tCB (Ew.rLen K) (tCons (tVar 2) tNil)) tNil)) ((List.range x.length).map fun i => dt K (.int (i : Nat))) := tyi_rng (tya_cons (ty_mixL rfl) tya_nil) (by omega)
      refine tys_for (Wi := fun i (_ : Unit) => Wd.mix W D1 D2 nb1 nb2 x (x.length - i)) (Γi := fun _ (_ : Unit) => [some bx, none, some (isV (.ref D1)), some (isV (.ref D2)), none]) () hi (fun _ _ => ⟨rfl, rfl⟩) (fun σ H g => ⟨g.1, EnvL.less (by exact ⟨fun _ _ _ _ h => h, fun _ _ _ _ h => h, fun _ _ _ _ h => h, True.intro⟩) g.2⟩) (fun i T' _ hT => ?_) (fun _ σ H g => ?_)
      · obtain ⟨hi', rfl⟩ := range_map_get hT
        refine ⟨_, tyg_name 4, ?_⟩
        obtain ⟨m, hm⟩ : ∃ m, x.length - i = m + 1 := ⟨x.length - i - 1, by omega⟩
        have hm2 : x.length - (i + 1) = m := by omega
        rw [hm, hm2]
        show TyS _ [some bx, none, some (isV (.ref D1)), some (isV (.ref D2)), some (dt K (.int (i : Nat)))] _ _ _ _ _
        exact TyS.imp (tys_popApp h01 h02 d12 hl rfl rfl (ty_call (m + 1) ⟨by omega, by omega⟩ (tya_cons (ty_var rfl) (tya_cons (ty_mixL rfl) tya_nil)))) fun σ H n => ⟨(), n.1, EnvL.less (by exact ⟨fun _ _ _ _ h => h, fun _ _ _ _ h => h, fun _ _ _ _ h => h, True.intro⟩) n.2⟩
      · rw [List.length_map, List.length_range, Nat.sub_self] at g
        exact g
    · obtain ⟨v, s3, e3⟩ := g.get (i := 3) (T := isV (.ref D2)) rfl
      have e3 : v = .ref D2 := e3
      subst e3
      obtain ⟨_, ys, y1, y2, y3⟩ := c.own
      exact ⟨.ref D2, s3, dr _ H ⟨c.ex, ys, ⟨by omega, y3⟩, .lst y1 nm2 (ints_rp ys)⟩⟩
  exact tail _ H2 cm g2 E (fun _ _ _ z => z.elim) dr (fun _ _ _ z => z.elim) fun _ _ _ z => z.elim
end
section
variable {P : Program} {w : World} {K : PySem.W.Frag} {mg : Str → Option Value} {base : Heap}
section
variable {W : Wd} {Γ : Gam} {K : PySem.W.Frag} {te tb : TE} {tl : TA} {T : Typ} {n : Nat} {i : Int} {x : Str}
theorem ty_pickT (h : TyA W Γ tl (List.replicate n T)) (hb : Ty W Γ tb (digT K n)) (hn : n ≤ 1000) : Ty W Γ (tOp (rIx K) (tLst tl) tb) T :=
  any_sub (Ts := List.replicate n T) (ty_pick (n := n) (tyl_lst h (by rw [List.length_replicate]; omega)).ty hb (by rw [List.length_replicate]; exact Nat.le_refl _)) fun k hk v H z => by rw [rep_getD (by simpa using hk)] at z; exact z
theorem ty_newLX (h : Ty W Γ te (digT K n)) : Ty W Γ (tLst (tCons te tNil)) (anyG K W.H0) := fun σ H c g Q q =>
  tyl_lst (tya_cons h tya_nil) (by show 1 ≤ 1000000; decide) σ H c g Q fun p xs H1 e hp h1 h2 => by
    match xs, h2 with
    | [a], ⟨⟨k, hk, h3⟩, _⟩ => exact q _ H1 e ⟨.lst (k : Nat), trivial, .lst h1 (c.nm hp) (.cons h3 .nil), p, rfl, c.ex.free hp⟩
theorem ty_newT : Ty W Γ (tTup (tCons (tC (.int 1)) (tCons (tLst (tCons (tC (.int 2)) tNil)) tNil))) (anyG K W.H0) := fun σ H c g Q q => by
  refine ⟨by show 1 ≤ sizeLine; exact sz_le (by decide), fun p hp => ⟨by show 2 ≤ sizeLine; exact sz_le (by decide), fun t ht => ?_⟩⟩
  have pt : p ≠ t := fun z => by rw [← z, upd_same] at ht; cases ht
  have hp' : upd (upd H p (.lst [V.int 2])) t (.tup [V.int 1, .ref p]) p = some (.lst [V.int 2]) := by rw [upd_ne pt]; exact upd_same
  have sq : SqT K (upd (upd H p (.lst [V.int 2])) t (.tup [V.int 1, .ref p])) t [V.int 1, .ref p] := SqT.of upd_same
  exact q _ _ ((Ex.new hp).trans (Ex.new ht)) ⟨.tup, trivial, .tup sq (.cons (.int 1) (.cons (.lst hp' (c.nm hp) (.cons (.int 2) .nil)) .nil)), t, p, rfl, upd_same, c.ex.free hp, .lst hp' (c.nm hp) (.cons (.int 2) .nil)⟩
theorem ty_newD : Ty W Γ (tDisp [(tC (.str "a"), tLst (tCons (tC (.int 3)) tNil))]) (anyG K W.H0) := fun σ H c g Q q => fun d hd => by
  refine ⟨by show 1 ≤ sizeLine; exact sz_le (by decide), fun p hp => ?_⟩
  have dp : d ≠ p := fun z => by rw [← z, upd_same] at hp; cases hp
  have hp0 : H p = none := by rw [upd_ne (Ne.symm dp)] at hp; exact hp
  have hd2 : upd (upd H d (.dK [])) p (.lst [V.int 3]) d = some (.dK []) := by rw [upd_ne dp]; exact upd_same
  refine ⟨hd2, [(.inr "a", .ref p)], rfl, (by show 1 ≤ 15; decide), ?_⟩
  have hp2 : upd (upd (upd H d (.dK [])) p (.lst [V.int 3])) d (.dK [(.inr "a", .ref p)]) p = some (.lst [V.int 3]) := by rw [upd_ne (Ne.symm dp)]; exact upd_same
  exact q _ _ (((Ex.new hd).trans (Ex.new hp)).mut hd) ⟨.dic, trivial, .dic upd_same (.cons (.lst hp2 (c.nm hp0) (.cons (.int 3) .nil)) .nil), d, rfl, c.ex.free hd⟩
end
def sp_law_anything (K : PySem.W.Frag) : Sp := spR (fun _ : Unit => True) (fun _ => [bx]) (fun _ => rAny K)
theorem ok_law_anything (T : Tx P K mg) : FnOk P w K mg base (L2.CX P w) 2 T.a_law_anything T.f_law_anything ["box"] (sp_law_anything K) := by
  have G_law_take := ok_law_take (w := w) (base := base) T
  have nd := sc_law_anything.nd
  refine fn_tyR T.F_law_anything sc_law_anything (fun x _ => rfl) fun cdv Ar outer s H E hr => ⟨_, (pss_cons (pset 1 nd (pcall G_law_take (hr.mono (by decide)) T.D_law_take (pa_cons (pv 0) (pa_cons pe_int pa_nil))))
    (pss_cons (ps_if (pt_cmpR op_lt (pv 1) pe_int (nomark _)) (pss_one (ps_ret (pe_ix (k_ix (K := K) rfl) (pe_lst (pa_cons pe_non (pa_cons pe_bl (pa_cons pe_bl (pa_cons pe_int (pa_cons (pe_un un_neg pe_int) (pa_cons (pe_op op_pow pe_int pe_int) pa_nil))))))) (pv 1) (fun _ _ => rfl)))) pss_nil)
    (pss_cons (ps_if (pt_cmpR op_lt (pv 1) pe_int (nomark _)) (pss_one (ps_ret (pe_ix (k_ix (K := K) rfl) (pe_lst (pa_cons pe_str (pa_cons pe_str (pa_cons pe_str pa_nil)))) (pe_op op_sub (pv 1) pe_int) (fun _ _ => rfl)))) pss_nil)
    (pss_one (ps_ret (pe_ix (k_ix (K := K) rfl) (pe_lst (pa_cons (pe_lst (pa_cons (pcall G_law_take (hr.mono (by decide)) T.D_law_take (pa_cons (pv 0) (pa_cons pe_int pa_nil))) pa_nil)) (pa_cons (pe_tup (pa_cons pe_int (pa_cons (pe_lst (pa_cons pe_int pa_nil)) pa_nil))) (pa_cons (pe_disp (pps_cons pe_str (pe_lst (pa_cons pe_int pa_nil)) pps_nil) rfl rfl (fun z => by cases z) (by decide)) pa_nil)))) (pe_op op_sub (pv 1) pe_int) (fun _ _ => rfl))))))), fun W x hC => ?_⟩
  have dig : ∀ (W' : Wd) (Γ : Gam) (n : Nat), Γ[0]? = some (some bx) → 0 < n → n ≤ 1000000 → Ty W' Γ (tCall (sp_law_take K) [] E0 (tCons (tVar 0) (tCons (tC (.int (n : Nat))) tNil))) (digT K n) := fun W' Γ n h h0 h1 => ty_call n ⟨h0, h1⟩ (tya_cons (ty_var h) (tya_cons ty_int tya_nil))
  refine tys_seqE (tys_set (T := digT K 12) (dig _ _ 12 rfl (by decide) (by decide))) ?_
  refine TyS.openX (n := 1) rfl fun way => TyS.openG (n := 1) rfl fun hw => ?_
  show TyS W [some bx, some (dt K (.int (way : Nat)))] _ _ _ _ _
  have un : ∀ v H, (anyG K W.H0).at W v H → (rAny K).p W.M W.B W.H0 v H := fun v H z => z
  refine tys_guard (φ := (· = decide (way < 6))) (Tt.is (tt_test (ty_op (ty_var rfl) ty_int opt_lt)) (decide_eq_decide.mpr (by omega))) (fun z => ?_) fun z => ?_
  · have h6 := of_decide_eq_true z.symm
    exact tys_retS trivial (ty_pickT (n := 6) (T := anyG K W.H0) (tya_cons (ty_flat ty_non trivial) (tya_cons (ty_flat ty_bl trivial) (tya_cons (ty_flat ty_bl trivial) (tya_cons (ty_flat ty_int trivial) (tya_cons (ty_flat (ty_un ty_int unt_neg) trivial) (tya_cons (ty_flat (ty_op ty_int ty_int (opt_pow ⟨by decide, by decide, by decide⟩)) trivial) tya_nil)))))) ((ty_var rfl).sub fun v H _ z => ⟨way, h6, z⟩) (by decide)) un
  have h6 := of_decide_eq_false z.symm
  refine tys_guard (φ := (· = decide (way < 9))) (Tt.is (tt_test (ty_op (ty_var rfl) ty_int opt_lt)) (decide_eq_decide.mpr (by omega))) (fun z => ?_) fun z => ?_
  · have h9 := of_decide_eq_true z.symm
    have ix : Ty W [some bx, some (dt K (.int (way : Nat)))] (tOp (rI0 fun i j => V.int (i - j)) (tVar 1) (tC (.int 6))) (dt K (.int ((way : Nat) - 6))) := ty_op (ty_var rfl) ty_int opt_sub
    exact tys_retS trivial (ty_pickT (n := 3) (T := anyG K W.H0) (tya_cons (ty_flat ty_str (by show _ ≤ 1000; decide)) (tya_cons (ty_flat ty_str (by show _ ≤ 1000; decide)) (tya_cons (ty_flat ty_str (by show _ ≤ 1000; decide)) tya_nil))) (ix.sub fun v H _ z => ⟨way - 6, by omega, by rw [show (((way - 6 : Nat) : Nat) : Int) = (way : Nat) - 6 by omega]; exact z⟩) (by decide)) un
  have h9 := of_decide_eq_false z.symm
  have hw : way < 12 := hw
  have ix : Ty W [some bx, some (dt K (.int (way : Nat)))] (tOp (rI0 fun i j => V.int (i - j)) (tVar 1) (tC (.int 9))) (dt K (.int ((way : Nat) - 9))) := ty_op (ty_var rfl) ty_int opt_sub
  exact TyS.never (tys_retS trivial (ty_pickT (n := 3) (T := anyG K W.H0) (tya_cons (ty_newLX (dig _ _ 9 rfl (by decide) (by decide))) (tya_cons ty_newT (tya_cons ty_newD tya_nil))) (ix.sub fun v H _ z => ⟨way - 9, by omega, by rw [show (((way - 9 : Nat) : Nat) : Int) = (way : Nat) - 9 by omega]; exact z⟩) (by decide)) un)
end
section
variable {P : Program} {w : World} {K : PySem.W.Frag} {mg : Str → Option Value} {base : Heap}
def flatX (v : V) : Prop := v = .non ∨ (∃ b, v = .bl b) ∨ (∃ i, v = .int i) ∨ ∃ x, v = .str x
/-- something is put behind a list or dict that a value is or holds -/
def GrS : Nat → V → Hp → (Hp → Prop) → Prop
  | 0, _, _, _ => False
  | n + 1, v, H, q => (flatX v ∧ q H) ∨ (∃ p xs, v = .ref p ∧ H p = some (.lst xs) ∧ xs.length < 1000 ∧ q (upd H p (.lst (xs ++ [.str "more"])))) ∨
    (∃ p kvs, v = .ref p ∧ H p = some (.dK kvs) ∧ kvs.length < 1000 ∧ q (upd H p (.dK (putK kvs (.inr "more") (.int 1))))) ∨
    ∃ t i p xs, v = .ref t ∧ H t = some (.tup [.int i, .ref p]) ∧ H p = some (.lst xs) ∧ xs.length < 1000 ∧ 0 < n ∧ q (upd H p (.lst (xs ++ [.str "more"])))
def spG (n : Nat) : Sp := fun vs H Q _ => ∃ v, vs = [v] ∧ GrS n v H (fun H' => Q .non H')
def sr_law_grown (_ : PySem.W.Frag) (n : Nat) : Sp := spG n
def sp_law_grown (K : PySem.W.Frag) : Sp := sr_law_grown K 6
theorem sr0_law_grown {vs : List V} {H : Hp} {Q : VK} {E : XK} (h : sr_law_grown K 0 vs H Q E) : False := by
  obtain ⟨_, _, z⟩ := h
  exact z
theorem sr1_law_grown {n : Nat} {vs : List V} {H : Hp} {Q : VK} {E : XK} (h : sr_law_grown K n vs H Q E) : vs.length = 1 := by
  obtain ⟨v, rfl, _⟩ := h
  rfl
-- := spG
theorem okr_law_grown (T : Tx P K mg) : ∀ n : Nat, FnOk P w K mg base (L2.CX P w) n T.a_law_grown T.f_law_grown ["value"] (sr_law_grown K n)
  | 0 => ⟨fun vs H Q E h => (sr0_law_grown h).elim, fun A outer s H args us vs Q E _ _ _ _ h => (sr0_law_grown h).elim⟩
  | n + 1 => by
    have G_law_grown := okr_law_grown T n
    have nd := sc_law_grown.nd
    refine okN T.F_law_grown sc_law_grown (fun vs H Q E h => sr1_law_grown h) fun cdv Ar outer s H vs Q E hr h => ⟨_, (pss_one (ps_if (pt_val (k_isi (K := K) rfl T.m_isinstance (pa_cons (pv 0) (pa_cons (bt_list T.m_list) pa_nil)))) (pss_one (ps_expr (k_append (K := K) rfl (pv 0) (pa_cons pe_str pa_nil)))) (pss_one (ps_if (pt_val (k_isi (K := K) rfl T.m_isinstance (pa_cons (pv 0) (pa_cons (bt_dict T.m_dict) pa_nil)))) (pss_one (ps_asg pe_int (pg_sub (pv 0) pe_str (set_dict (hu1 hr.units))))) (pss_one (ps_if (pt_val (k_isi (K := K) rfl T.m_isinstance (pa_cons (pv 0) (pa_cons (bt_tuple T.m_tuple) pa_nil)))) (pss_one (ps_for PassesOwn.never rfl (k_itup (K := K) rfl (pv 0)) (pgn 1 nd) (pss_one (ps_expr (pcall G_law_grown hr T.D_law_grown (pa_cons (pv 1) pa_nil)))))) pss_nil)))))), ?_⟩
    obtain ⟨v, rfl, h⟩ := h
    have tst : ∀ (c t : String) (b : Bool) (Q : Bool → Hp → Prop), TyOf K H v (.type t) → kitB t c = some b → Q b H → tB (tCB (rIsi K) (tCons (tVar 0) (tCons (tC (V.ty c)) tNil))) (L2.start [("value" : Str), ("item" : Str)] [v]) H Q := fun c t b Q ht hk q => ⟨v, rfl, v, .ty c, .type t, .type c, b, rfl, .ty c, .base ht, kit_ty hk, b, rfl, q⟩
    rcases h with ⟨hf, q⟩ | ⟨p, xs, rfl, hp, hz, q⟩ | ⟨p, kvs, rfl, hp, hz, q⟩ | ⟨t, i, p, xs, rfl, ht, hp, hz, hn, q⟩
    · obtain ⟨t, h1, h2, h3, h4⟩ : ∃ t, TyOf K H v (.type t) ∧ kitB t "list" = some false ∧ kitB t "dict" = some false ∧ kitB t "tuple" = some false := by
        rcases hf with rfl | ⟨b, rfl⟩ | ⟨i, rfl⟩ | ⟨x, rfl⟩
        · exact ⟨"NoneType", .non, by decide +kernel, by decide +kernel, by decide +kernel⟩
        · exact ⟨"bool", .bl b, by decide +kernel, by decide +kernel, by decide +kernel⟩
        · exact ⟨"int", .int i, by decide +kernel, by decide +kernel, by decide +kernel⟩
        · exact ⟨"str", .str x, by decide +kernel, by decide +kernel, by decide +kernel⟩
      refine tst "list" t false _ h1 h2 ?_
      refine tst "dict" t false _ h1 h3 ?_
      exact tst "tuple" t false _ h1 h4 q
    · refine tst "list" "list" true _ (.lst hp) (by decide +kernel) ?_
      exact ⟨.ref p, rfl, .inl ⟨rfl, _, SqL.of hp⟩, p, xs, .str "more", rfl, rfl, hp, sz_lt (by omega), q⟩
    · refine tst "list" "dict" false _ (.dK hp) (by decide +kernel) ?_
      refine tst "dict" "dict" true _ (.dK hp) (by decide +kernel) ?_
      exact ⟨.ref p, rfl, p, _, rfl, .inl ⟨kvs, .inr "more", hp, rfl, sz_lt (by omega), rfl⟩, q⟩
    · refine tst "list" "tuple" false _ (.tup ht) (by decide +kernel) ?_
      refine tst "dict" "tuple" false _ (.tup ht) (by decide +kernel) ?_
      refine tst "tuple" "tuple" true _ (.tup ht) (by decide +kernel) ?_
      have tp : t ≠ p := fun z => by rw [z, hp] at ht; cases ht
      obtain ⟨m, rfl⟩ : ∃ m, n = m + 1 := ⟨n - 1, by omega⟩
      refine ⟨.ref t, rfl, t, rfl, ⟨_, SqT.of ht⟩, for_tup (xs := [.int i, .ref p]) (fun j σ H' => (∃ s1, σ = [some (.ref t), s1]) ∧ H' = if j < 2 then H else upd H p (.lst (xs ++ [.str "more"]))) ⟨⟨_, rfl⟩, rfl⟩ (fun j σ H' _ h => ?_) (fun j x σ H' hx h => ?_) fun σ H' h => ?_⟩
      · obtain ⟨_, rfl⟩ := h
        split
        · exact SqT.of ht
        · exact SqT.of (by rw [upd_ne tp]; exact ht)
      · obtain ⟨⟨s1, rfl⟩, rfl⟩ := h
        match j, hx with
        | 0, hx =>
          cases hx
          exact ⟨.int i, rfl, .int i, rfl, .inl ⟨.inr (.inr (.inl ⟨i, rfl⟩)), ⟨_, rfl⟩, rfl⟩⟩
        | 1, hx =>
          cases hx
          exact ⟨.ref p, rfl, .ref p, rfl, .inr (.inl ⟨p, xs, rfl, hp, hz, ⟨_, rfl⟩, rfl⟩)⟩
      · obtain ⟨_, rfl⟩ := h
        exact q
theorem ok_law_grown (T : Tx P K mg) : FnOk P w K mg base (L2.CX P w) 6 T.a_law_grown T.f_law_grown ["value"] (sp_law_grown K) := okr_law_grown T 6
end
section
variable {P : Program} {w : World} {K : PySem.W.Frag} {mg : Str → Option Value} {base : Heap}
/-- values of a dict -/
def valS : PyData → Prop
  | .int _ => True
  | .list [.int _] => True
  | _ => False
/-- as smOk; a dict of texts may be -/
def stOk : Nat → PyData → Prop
  | 0, _ => False
  | n + 1, .list ds => ds.length ≤ 1000 ∧ ∀ e ∈ ds, stOk n e
  | n + 1, .tuple ds => ds.length ≤ 1000 ∧ ∀ e ∈ ds, stOk n e
  | _ + 1, .str x => x.length ≤ 1000
  | n + 1, .dict kvs => ∃ ks : List (Str × PyData), kvs = (ks.map fun p => (PyData.str p.1, p.2)) ∧ List.Nodup (ks.map fun p : Str × PyData => p.1) ∧ ks.length ≤ 1000 ∧ ∀ p ∈ ks, valS p.2 ∧ stOk n p.2
  | _ + 1, _ => True
def sr_law_still (K : PySem.W.Frag) (n : Nat) : Sp := spT (stOk n) (fun d => [dt K d, dt K d]) (fun _ => dt K (.bool true))
def sp_law_still (K : PySem.W.Frag) : Sp := sr_law_still K 6
theorem RpK_get {M : Addr → Prop} {K : PySem.W.Frag} {H : Hp} : ∀ {ks : List (Str × PyData)} {kvs : List (Key × V)}, RpK M K H kvs (ks.map fun p => (PyData.str p.1, p.2)) → ∀ j : Nat, (∀ p : Str × PyData, ks[j]? = some p → ∃ v : V, kvs[j]? = some ((Sum.inr p.1 : Key), v) ∧ Rp M K H v p.2) ∧ (ks[j]? = none → kvs[j]? = none)
  | [], kvs, h, j => by
    cases h
    exact ⟨fun p e => by simp at e, fun _ => rfl⟩
  | q :: ks, kvs, h, j => by
    have h' : RpK M K H kvs ((PyData.str q.1, q.2) :: ks.map fun p => (PyData.str p.1, p.2)) := h
    generalize hd : PyData.str q.1 = kd at h'
    cases h' with
    | @cons k v vs _ _ h1 r =>
      obtain rfl : k = .inr q.1 := by
        cases k with
        | inl z => cases hd
        | inr z => cases hd; rfl
      cases j with
      | zero => exact ⟨fun p e => by cases e; exact ⟨v, rfl, h1⟩, fun e => by cases e⟩
      | succ j =>
        have z := RpK_get r j
        exact ⟨fun p e => z.1 p (by simpa using e), fun e => by simpa using z.2 (by simpa using e)⟩
theorem RpK_keys {M : Addr → Prop} {K : PySem.W.Frag} {H : Hp} : ∀ {ks : List (Str × PyData)} {kvs : List (Key × V)}, RpK M K H kvs (ks.map fun p => (PyData.str p.1, p.2)) → kvs.map (·.1) = ks.map fun p => Sum.inr p.1
  | [], kvs, h => by cases h; rfl
  | q :: ks, kvs, h => by
    have h' : RpK M K H kvs ((PyData.str q.1, q.2) :: ks.map fun p => (PyData.str p.1, p.2)) := h
    generalize hd : PyData.str q.1 = kd at h'
    cases h' with
    | @cons k v vs _ _ h1 r =>
      obtain rfl : k = .inr q.1 := by
        cases k with
        | inl z => cases hd
        | inr z => cases hd; rfl
      rw [List.map_cons, List.map_cons, RpK_keys r]
theorem valV_at : ∀ {kvs : List (Key × V)} {j : Nat} {k : Key} {v : V}, (kvs.map (·.1)).Nodup → kvs[j]? = some (k, v) → valV kvs k = some v
  | [], _, _, _, _, e => by simp at e
  | q :: kvs, 0, k, v, _, e => by
    cases e
    exact valV_pos rfl
  | q :: kvs, j + 1, k, v, h, e => by
    rw [List.map_cons, List.nodup_cons] at h
    have e' : kvs[j]? = some (k, v) := by simpa using e
    rw [valV_neg (fun z => h.1 (by rw [z]; exact List.mem_map.mpr ⟨_, List.mem_of_getElem? e', rfl⟩))]
    exact valV_at h.2 e'
theorem nodup_inr : ∀ {l : List Str}, l.Nodup → (l.map (Sum.inr : Str → Key)).Nodup
  | [], _ => List.nodup_nil
  | x :: l, h => by
    rw [List.nodup_cons] at h
    rw [List.map_cons, List.nodup_cons]
    exact ⟨fun z => by
      obtain ⟨y, hy, e⟩ := List.mem_map.mp z
      cases e
      exact h.1 hy, nodup_inr h.2⟩
/-- a walk over the keys of a dict, where the test is false -/
theorem ty_keysS {W : Wd} {Γ : Gam} {K : PySem.W.Frag} {ks : List (Str × PyData)} {n : Nat} (nd : List.Nodup (ks.map fun p : Str × PyData => p.1)) (hs : ∀ p ∈ ks, valS p.2 ∧ stOk n p.2) (hΓ : Γ = [some (dt K (.dict (ks.map fun p => (PyData.str p.1, p.2)))), some (dt K (.dict (ks.map fun p => (PyData.str p.1, p.2)))), none, none]) : Ty W Γ (tLockE (tLc (iKeys (tVar 1)) (gName 2) (tOr (tB (tDNotIn (tVar 2) (tVar 0))) (tNot (tB (tCall (sr_law_still K n) [] E0 (tCons (tDGet (tVar 0) (tVar 2)) (tCons (tDGet (tVar 1) (tVar 2)) tNil)))))) (tVar 2) [2])) (dt K (.list [])) := fun σ H c g Q q => by
  subst hΓ
  match σ, g with
  | [some u, some v, s2, s3], g =>
    obtain ⟨g1, g2, _⟩ := g
    cases g1 with
    | @dic d0 kvs0 _ e0 r0 =>
    cases g2 with
    | @dic d kvs _ e1 r1 =>
    have nd0 : (kvs0.map (·.1)).Nodup := by
      rw [RpK_keys r0]
      have z := nodup_inr nd
      rw [List.map_map] at z
      exact z
    have nd1 : (kvs.map (·.1)).Nodup := by
      rw [RpK_keys r1]
      have z := nodup_inr nd
      rw [List.map_map] at z
      exact z
    refine ⟨d, .dK kvs, e1, trivial, fun od => ⟨.ref d, rfl, d, od, rfl, .inl ⟨kvs, upd_same, fun D hD => ?_⟩⟩⟩
    have hd1 : upd H d (.frz od (.dK kvs)) d = some (.frz od (.dK kvs)) := upd_same
    have nD : d ≠ D := ne_of_none hd1 hD
    have HD : H D = none := by rw [upd_ne (Ne.symm nD)] at hD; exact hD
    have fz : ∀ {H2 : Hp}, Ex (fun _ => False) (upd (upd H d (.frz od (.dK kvs))) D (.lst [])) H2 → H2 d = some (.frz od (.dK kvs)) := fun {H2} h => h.keep (by rw [upd_ne nD]; exact hd1) id
    have rd : ∀ {H2 : Hp} {b : Addr} {kv : List (Key × V)} {x : Str} {w : V}, H b = some (.dK kv) → valV kv (.inr x) = some w → Ex (fun _ => False) (upd (upd H d (.frz od (.dK kvs))) D (.lst [])) H2 → DGet H2 b (.str x) (some w) := fun {H2 b kv x w} hb hv h => by
      refine .inl ⟨kv, .inr x, ?_, rfl, hv.symm⟩
      by_cases eb : b = d
      · subst eb
        rw [e1] at hb
        cases hb
        exact .inr ⟨od, fz h⟩
      · exact .inl (h.keep (by rw [upd_ne (ne_of_none hb HD), upd_ne eb]; exact hb) id)
    have val : ∀ {H2 : Hp} {w : V} {x : PyData}, valS x → Rp W.M K H w x → Ex (fun _ => False) (upd (upd H d (.frz od (.dK kvs))) D (.lst [])) H2 → Rp (fun _ => False) K H2 w x := fun {H2 w x} hx hr h => by
      cases hr with
      | int i => exact .int i
      | @lst b xs ds hb hm hr =>
        cases hr with
        | nil => exact hx.elim
        | @cons y ys z zs h1 h2 =>
          cases h1 with
          | int i =>
            cases h2 with
            | nil =>
              refine .lst (h.keep ?_ id) id (.cons (.int i) .nil)
              rw [upd_ne (ne_of_none hb HD), upd_ne (fun q => by rw [q, e1] at hb; cases hb)]
              exact hb
            | cons _ _ => exact hx.elim
          | _ => exact hx.elim
      | _ => exact hx.elim
    refine lc_it walk_keys (fun _ H2 => Ex (fun _ => False) (upd (upd H d (.frz od (.dK kvs))) D (.lst [])) H2) (Ex.refl _ _) (fun _ H2 _ h => fz h) ?_ ?_
    · rintro j xv H2 H3 hj h2 ⟨rfl, k, v', hk, rfl⟩
      cases hp : ks[j]? with
      | none =>
        rw [(RpK_get r1 j).2 hp] at hk
        cases hk
      | some p =>
        obtain ⟨w1, k1, k2⟩ := (RpK_get r1 j).1 p hp
        obtain ⟨w0, k3, k4⟩ := (RpK_get r0 j).1 p hp
        rw [k1] at hk
        cases hk
        obtain ⟨hv, hst⟩ := hs p (List.mem_of_getElem? hp)
        have v0 := valV_at nd0 k3
        have v1 := valV_at nd1 k1
        refine ⟨rfl, ?_⟩
        refine ⟨.str p.1, rfl, .ref d0, rfl, d0, some w0, rfl, rd e0 v0 h2, false, rfl, ?_⟩
        dsimp only
        rw [if_neg Bool.false_ne_true]
        refine ⟨.ref d0, rfl, .str p.1, rfl, d0, w0, rfl, rd e0 v0 h2, .ref d, rfl, .str p.1, rfl, d, v', rfl, rd e1 v1 h2, ?_⟩
        refine ⟨fun _ => False, fun _ => False, p.2, fun _ z => z, fun _ z => z.elim, fun _ z => z.elim, hst, ⟨val hv k4 h2, val hv k2 h2, True.intro⟩, fun v H' e hv => ?_⟩
        cases hv
        exact ⟨true, rfl, by dsimp only; rw [if_neg (by decide)]; exact h2.trans e⟩
    · intro H2 h
      refine ⟨fz h, q _ _ (fun a o ha => .inl ?_) (.lst (xs := []) ?_ (c.nm HD) .nil)⟩
      · by_cases ea : a = d
        · subst ea
          rw [e1] at ha
          cases ha
          exact upd_same
        · rw [upd_ne ea]
          exact h.keep (by rw [upd_ne (ne_of_none ha HD), upd_ne ea]; exact ha) id
      · rw [upd_ne (Ne.symm nD)]
        exact h.keep upd_same id
theorem okr_law_still (T : Tx P K mg) : ∀ n : Nat, FnOk P w K mg base (L2.CX P w) (8 + n) T.a_law_still T.f_law_still ["told", "due"] (sr_law_still K n)
  | 0 => ⟨fun vs H Q E ⟨_, _, _, _, _, _, z, _⟩ => z.elim, fun A outer s H args us vs Q E _ _ _ _ ⟨_, _, _, _, _, _, z, _⟩ => z.elim⟩
  | n + 1 => by
    have G_law_still := okr_law_still T n
    have G_law_same := ok_law_same (w := w) (base := base) T
    have nd := sc_law_still.nd
    refine fn_ty T.F_law_still sc_law_still (fun x _ => rfl) fun cdv Ar outer s H E hr => ⟨_, (pss_cons (ps_if (pt_val (k_isi (K := K) rfl T.m_isinstance (pa_cons (pv 1) (pa_cons (bt_dict T.m_dict) pa_nil)))) (pss_cons (ps_if (PW.pt (pw_or (pt_not (pt_val (k_isi (K := K) rfl T.m_isinstance (pa_cons (pv 0) (pa_cons (bt_dict T.m_dict) pa_nil))))) (pw_or1 (pt_cmpR (k_ne (K := K) rfl hr.units) (k_lenA (K := K) rfl T.m_len (pa_cons (pv 0) pa_nil)) (k_lenA (K := K) rfl T.m_len (pa_cons (pv 1) pa_nil)) (nomark _))))) (pss_one (ps_ret pe_bl)) pss_nil)
    (pss_one (ps_ret (pe_cmpR (k_eq (K := K) rfl hr.units) (pe_lock (plc [("key", 2)] nd (pi_keys (pv 1)) (fun _ _ _ _ _ => (pgn 2 nd)) (fun _ _ _ _ _ => (pts_one (PW.pt (pw_or (pt_cmp (pc_dnotin (hu1 hr.units) (pv 2) (pv 0)) rfl) (pw_or1 (pt_not (pt_val (pcall G_law_still hr T.D_law_still (pa_cons (pe_dget (hu1 hr.units) (pv 0) (pv 2) (fun _ _ => rfl)) (pa_cons (pe_dget (hu1 hr.units) (pv 1) (pv 2) (fun _ _ => rfl)) pa_nil)))))))))) (fun _ _ _ _ _ => (pv 2)) (by kernel_rfl))) (pe_lst pa_nil) (nomark _))))) pss_nil)
    (pss_cons (ps_if (pt_val (k_isi2 (K := K) rfl T.m_isinstance (pa_cons (pv 1) (pa_cons (pe_tup (pa_cons (bt_list T.m_list) (pa_cons (bt_tuple T.m_tuple) pa_nil))) pa_nil)))) (pss_cons (ps_if (PW.pt (pw_or (pt_cmpR (k_ne (K := K) rfl hr.units) (k_isi (K := K) rfl T.m_isinstance (pa_cons (pv 0) (pa_cons (bt_list T.m_list) pa_nil))) (k_isi (K := K) rfl T.m_isinstance (pa_cons (pv 1) (pa_cons (bt_list T.m_list) pa_nil))) (nomark _)) (pw_or (pt_cmpR (k_ne (K := K) rfl hr.units) (k_isi (K := K) rfl T.m_isinstance (pa_cons (pv 0) (pa_cons (bt_tuple T.m_tuple) pa_nil))) (k_isi (K := K) rfl T.m_isinstance (pa_cons (pv 1) (pa_cons (bt_tuple T.m_tuple) pa_nil))) (nomark _)) (pw_or1 (pt_cmpR (k_ne (K := K) rfl hr.units) (k_lenA (K := K) rfl T.m_len (pa_cons (pv 0) pa_nil)) (k_lenA (K := K) rfl T.m_len (pa_cons (pv 1) pa_nil)) (nomark _)))))) (pss_one (ps_ret pe_bl)) pss_nil)
    (pss_one (ps_ret (pe_cmpR (k_eq (K := K) rfl hr.units) (plc [("k", 3)] nd (pi_range1 rfl T.m_range (pa_cons (k_lenA (K := K) rfl T.m_len (pa_cons (pv 1) pa_nil)) pa_nil)) (fun _ _ _ _ _ => (pgn 3 nd)) (fun _ _ _ _ _ => (pts_one (pt_not (pt_val (pcall G_law_still hr T.D_law_still (pa_cons (pe_ix (k_ix (K := K) rfl) (pv 0) (pv 3) (fun _ _ => rfl)) (pa_cons (pe_ix (k_ix (K := K) rfl) (pv 1) (pv 3) (fun _ _ => rfl)) pa_nil))))))) (fun _ _ _ _ _ => (pv 3)) (by kernel_rfl)) (pe_lst pa_nil) (nomark _))))) pss_nil)
    (pss_one (ps_ret (pcall G_law_same (hr.mono (Nat.le_add_right _ _)) T.D_law_same (pa_cons (pv 0) (pa_cons (pv 1) pa_nil))))))), fun W x hC => ?_⟩
    cases x with
    | dict kvs =>
      obtain ⟨ks, rfl, nd', hl, hs⟩ : ∃ ks : List (Str × PyData), kvs = (ks.map fun p => (PyData.str p.1, p.2)) ∧ List.Nodup (ks.map fun p : Str × PyData => p.1) ∧ ks.length ≤ 1000 ∧ ∀ p ∈ ks, valS p.2 ∧ stOk n p.2 := hC
      refine tys_guard (φ := (· = true)) (by tm_at "ttis") (fun _ => ?_) fun z => Bool.noConfusion z
      refine tys_guard (φ := (· = false)) (Tt.is (tt_orB (a := false) (by tm_at "ttis") fun _ => tt_test (ty_op (ty_cb (tya_cons (ty_var rfl) tya_nil) cbt_lenDict) (ty_cb (tya_cons (ty_var rfl) tya_nil) cbt_lenDict) opt_neI)) (by simp)) (fun z => Bool.noConfusion z) fun _ => TyS.never (tys_retW (ty_op (ty_keysS nd' hs rfl) (ty_lstD (ds := []) tya_nil (by decide)) opt_eqL0))
    | list ds =>
      obtain ⟨h1, h2⟩ : ds.length ≤ 1000 ∧ ∀ e ∈ ds, stOk n e := hC
      refine tys_guard (φ := (· = false)) (by tm_at "ttis") (fun z => Bool.noConfusion z) fun _ => tys_guard (φ := (· = true)) (by tm_at "ttis") (fun _ => ?_) fun z => Bool.noConfusion z
      refine tys_guard (φ := (· = false)) ?_ (fun z => Bool.noConfusion z) fun _ => TyS.never (tys_retW (ty_op (ty_lstG (f := fun k : Nat => .int (k : Nat)) (xs := (List.range ds.length).filter fun _ => false) ?_ |>.is ?_) (ty_lstD (ds := []) tya_nil (by decide)) opt_eqL0))
      · exact Tt.is (tt_orB (a := false) (by tm_at "ttis") fun _ => tt_orB (a := false) (by tm_at "ttis") fun _ => tt_test (ty_op (ty_cb (tya_cons (ty_var rfl) tya_nil) (cbt_lenA cbt_lenL)) (ty_cb (tya_cons (ty_var rfl) tya_nil) (cbt_lenA cbt_lenL)) opt_neI)) (by simp)
      · refine tyl_filter (fun k : Nat => dt K (.int (k : Nat))) (fun k : Nat => dt K (.int (k : Nat))) (fun _ => false) (tyi_rng (n := ds.length) (tya_cons (ty_cb (tya_cons (ty_var rfl) tya_nil) (cbt_lenA cbt_lenL)) tya_nil) (by omega)) (by rw [List.length_range]; omega) (by decide) fun W' k hk => ⟨?_, fun z => Bool.noConfusion z⟩
        have hk' : k < ds.length := List.mem_range.mp hk
        have e := List.getElem?_eq_getElem hk'
        exact Tt.is (tt_notB (tt_B (ty_call (ds[k]) (h2 _ (List.getElem_mem hk')) (tya_cons (ty_op (ty_var rfl) (ty_var rfl) (opt_ixL (atI_nat e))) (tya_cons (ty_op (ty_var rfl) (ty_var rfl) (opt_ixL (atI_nat e))) tya_nil))))) rfl
      · simp
    | tuple ds =>
      obtain ⟨h1, h2⟩ : ds.length ≤ 1000 ∧ ∀ e ∈ ds, stOk n e := hC
      refine tys_guard (φ := (· = false)) (by tm_at "ttis") (fun z => Bool.noConfusion z) fun _ => tys_guard (φ := (· = true)) (by tm_at "ttis") (fun _ => ?_) fun z => Bool.noConfusion z
      refine tys_guard (φ := (· = false)) ?_ (fun z => Bool.noConfusion z) fun _ => TyS.never (tys_retW (ty_op (ty_lstG (f := fun k : Nat => .int (k : Nat)) (xs := (List.range ds.length).filter fun _ => false) ?_ |>.is ?_) (ty_lstD (ds := []) tya_nil (by decide)) opt_eqL0))
      · exact Tt.is (tt_orB (a := false) (by tm_at "ttis") fun _ => tt_orB (a := false) (by tm_at "ttis") fun _ => tt_test (ty_op (ty_cb (tya_cons (ty_var rfl) tya_nil) (cbt_lenA cbt_lenT)) (ty_cb (tya_cons (ty_var rfl) tya_nil) (cbt_lenA cbt_lenT)) opt_neI)) (by simp)
      · refine tyl_filter (fun k : Nat => dt K (.int (k : Nat))) (fun k : Nat => dt K (.int (k : Nat))) (fun _ => false) (tyi_rng (n := ds.length) (tya_cons (ty_cb (tya_cons (ty_var rfl) tya_nil) (cbt_lenA cbt_lenT)) tya_nil) (by omega)) (by rw [List.length_range]; omega) (by decide) fun W' k hk => ⟨?_, fun z => Bool.noConfusion z⟩
        have hk' : k < ds.length := List.mem_range.mp hk
        have e := List.getElem?_eq_getElem hk'
        exact Tt.is (tt_notB (tt_B (ty_call (ds[k]) (h2 _ (List.getElem_mem hk')) (tya_cons (ty_op (ty_var rfl) (ty_var rfl) (opt_ixT (atI_nat e))) (tya_cons (ty_op (ty_var rfl) (ty_var rfl) (opt_ixT (atI_nat e))) tya_nil))))) rfl
      · simp
    | _ => exact tys_guard (φ := (· = false)) (by tm_at "ttis") (fun z => Bool.noConfusion z) fun _ => tys_guard (φ := (· = false)) (by tm_at "ttis") (fun z => Bool.noConfusion z) fun _ => TyS.never (tys_retW (ty_call _ (by first | exact trivial | exact (show smOk 8 (.str _) from hC)) (tya_cons (ty_var rfl) (tya_cons (ty_var rfl) tya_nil))))
theorem ok_law_still (T : Tx P K mg) : FnOk P w K mg base (L2.CX P w) 14 T.a_law_still T.f_law_still ["told", "due"] (sp_law_still K) := okr_law_still T 6
end
section
variable {P : Program} {w : World} {K : PySem.W.Frag} {mg : Str → Option Value} {base : Heap}
theorem ty_mkU {W : Wd} {Γ : Gam} {K : PySem.W.Frag} {ta : TA} {cl : Nat → Addr} {u : V} (h : TyA W Γ ta [isV u, tupT K [isV u]]) : Ty W Γ (tMkV (cl 46) 2 flU2 ta) (eoK K cl 46 u) := ty_mkV h rfl fun vs fs M B H v hv hf hz => by
  obtain ⟨v1, v2, t, rfl, rfl⟩ := hf
  obtain ⟨h1, h2, _⟩ := hv
  obtain rfl : v1 = u := h1
  exact ⟨(v2, t), hz, h2⟩
theorem ty_mkUk {W : Wd} {Γ : Gam} {K : PySem.W.Frag} {ta : TA} {cl : Nat → Addr} {u : V} (h : TyA W Γ ta [tupT K [isV u], isV u]) : Ty W Γ (tMkV (cl 46) 2 flU2k ta) (eoK K cl 46 u) := ty_mkV h rfl fun vs fs M B H v hv hf hz => by
  obtain ⟨v1, v2, t, rfl, rfl⟩ := hf
  obtain ⟨h2, h1, _⟩ := hv
  obtain rfl : v1 = u := h1
  exact ⟨(v2, t), hz, h2⟩
theorem ty_mkN {W : Wd} {Γ : Gam} {K : PySem.W.Frag} {cl : Nat → Addr} {k : Nat} {u : V} (hk : 46 < k) : Ty W Γ (tMkV (cl k) 0 flN0 tNil) (eoK K cl k u) := ty_mkV tya_nil rfl fun vs fs M B H v hv hf hz => by
  obtain ⟨rfl, rfl⟩ := hf
  rw [eoK_ne (by omega)]
  unfold fsK
  rw [if_neg (by omega), if_neg (by omega), if_neg (by omega), if_neg (by omega), if_neg (by omega)]
  exact hz
def sp_law_made_1 (T : Tx P K mg) : Sp := spT (fun x : Nat × V × Bool => 24 ≤ x.1 ∧ x.1 < 49) (fun x => [dt K (.int (x.1 : Nat)), isV x.2.1, dt K (.bool x.2.2)]) (fun x => eoK K T.cl x.1 x.2.1)
theorem ok_law_made_1 (T : Tx P K mg) : FnOk P w K mg base (L2.CX P w) 1 T.a_law_made_1 T.f_law_made_1 ["k", "given", "by_name"] (sp_law_made_1 T) := by
  have nd := sc_law_made_1.nd
  refine fn_ty T.F_law_made_1 sc_law_made_1 (fun x _ => rfl) fun cdv Ar outer s H E hr => ⟨_, (pss_cons (ps_if (pt_cmpR (k_eq (K := K) rfl hr.units) (pv 0) pe_int (nomark _)) (pss_one (ps_ret (pe_ifExp (pt_val (pv 2)) (pe_mkVk (T.mk_24 w) T.gC_24 T.kC_24 hr (pk_cons (pv 1) pk_nil)) (pe_mkV (T.md_24 w) T.gC_24 T.kC_24 hr (pa_cons (pv 1) pa_nil))))) pss_nil)
    (pss_cons (ps_if (pt_cmpR (k_eq (K := K) rfl hr.units) (pv 0) pe_int (nomark _)) (pss_one (ps_ret (pe_ifExp (pt_val (pv 2)) (pe_mkVk (T.mk_25 w) T.gC_25 T.kC_25 hr (pk_cons (pv 1) pk_nil)) (pe_mkV (T.md_25 w) T.gC_25 T.kC_25 hr (pa_cons (pv 1) pa_nil))))) pss_nil)
    (pss_cons (ps_if (pt_cmpR (k_eq (K := K) rfl hr.units) (pv 0) pe_int (nomark _)) (pss_one (ps_ret (pe_ifExp (pt_val (pv 2)) (pe_mkVk (T.mk_26 w) T.gC_26 T.kC_26 hr (pk_cons (pv 1) pk_nil)) (pe_mkV (T.md_26 w) T.gC_26 T.kC_26 hr (pa_cons (pv 1) pa_nil))))) pss_nil)
    (pss_cons (ps_if (pt_cmpR (k_eq (K := K) rfl hr.units) (pv 0) pe_int (nomark _)) (pss_one (ps_ret (pe_ifExp (pt_val (pv 2)) (pe_mkVk (T.mk_27 w) T.gC_27 T.kC_27 hr (pk_cons (pv 1) pk_nil)) (pe_mkV (T.md_27 w) T.gC_27 T.kC_27 hr (pa_cons (pv 1) pa_nil))))) pss_nil)
    (pss_cons (ps_if (pt_cmpR (k_eq (K := K) rfl hr.units) (pv 0) pe_int (nomark _)) (pss_one (ps_ret (pe_ifExp (pt_val (pv 2)) (pe_mkVk (T.mk_28 w) T.gC_28 T.kC_28 hr (pk_cons (pv 1) pk_nil)) (pe_mkV (T.md_28 w) T.gC_28 T.kC_28 hr (pa_cons (pv 1) pa_nil))))) pss_nil)
    (pss_cons (ps_if (pt_cmpR (k_eq (K := K) rfl hr.units) (pv 0) pe_int (nomark _)) (pss_one (ps_ret (pe_ifExp (pt_val (pv 2)) (pe_mkVk (T.mk_29 w) T.gC_29 T.kC_29 hr (pk_cons (pv 1) pk_nil)) (pe_mkV (T.md_29 w) T.gC_29 T.kC_29 hr (pa_cons (pv 1) pa_nil))))) pss_nil)
    (pss_cons (ps_if (pt_cmpR (k_eq (K := K) rfl hr.units) (pv 0) pe_int (nomark _)) (pss_one (ps_ret (pe_ifExp (pt_val (pv 2)) (pe_mkVk (T.mk_30 w) T.gC_30 T.kC_30 hr (pk_cons (pv 1) pk_nil)) (pe_mkV (T.md_30 w) T.gC_30 T.kC_30 hr (pa_cons (pv 1) pa_nil))))) pss_nil)
    (pss_cons (ps_if (pt_cmpR (k_eq (K := K) rfl hr.units) (pv 0) pe_int (nomark _)) (pss_one (ps_ret (pe_ifExp (pt_val (pv 2)) (pe_mkVk (T.mk_31 w) T.gC_31 T.kC_31 hr (pk_cons (pv 1) pk_nil)) (pe_mkV (T.md_31 w) T.gC_31 T.kC_31 hr (pa_cons (pv 1) pa_nil))))) pss_nil)
    (pss_cons (ps_if (pt_cmpR (k_eq (K := K) rfl hr.units) (pv 0) pe_int (nomark _)) (pss_one (ps_ret (pe_ifExp (pt_val (pv 2)) (pe_mkVk (T.mk_32 w) T.gC_32 T.kC_32 hr (pk_cons (pv 1) pk_nil)) (pe_mkV (T.md_32 w) T.gC_32 T.kC_32 hr (pa_cons (pv 1) pa_nil))))) pss_nil)
    (pss_cons (ps_if (pt_cmpR (k_eq (K := K) rfl hr.units) (pv 0) pe_int (nomark _)) (pss_one (ps_ret (pe_ifExp (pt_val (pv 2)) (pe_mkVk (T.mk_33 w) T.gC_33 T.kC_33 hr (pk_cons (pv 1) pk_nil)) (pe_mkV (T.md_33 w) T.gC_33 T.kC_33 hr (pa_cons (pv 1) pa_nil))))) pss_nil)
    (pss_cons (ps_if (pt_cmpR (k_eq (K := K) rfl hr.units) (pv 0) pe_int (nomark _)) (pss_one (ps_ret (pe_ifExp (pt_val (pv 2)) (pe_mkVk (T.mk_34 w) T.gC_34 T.kC_34 hr (pk_cons (pv 1) pk_nil)) (pe_mkV (T.md_34 w) T.gC_34 T.kC_34 hr (pa_cons (pv 1) pa_nil))))) pss_nil)
    (pss_cons (ps_if (pt_cmpR (k_eq (K := K) rfl hr.units) (pv 0) pe_int (nomark _)) (pss_one (ps_ret (pe_ifExp (pt_val (pv 2)) (pe_mkVk (T.mk_35 w) T.gC_35 T.kC_35 hr (pk_cons (pv 1) pk_nil)) (pe_mkV (T.md_35 w) T.gC_35 T.kC_35 hr (pa_cons (pv 1) pa_nil))))) pss_nil)
    (pss_cons (ps_if (pt_cmpR (k_eq (K := K) rfl hr.units) (pv 0) pe_int (nomark _)) (pss_one (ps_ret (pe_ifExp (pt_val (pv 2)) (pe_mkVk (T.mk_36 w) T.gC_36 T.kC_36 hr (pk_cons (pv 1) pk_nil)) (pe_mkV (T.md_36 w) T.gC_36 T.kC_36 hr (pa_cons (pv 1) pa_nil))))) pss_nil)
    (pss_cons (ps_if (pt_cmpR (k_eq (K := K) rfl hr.units) (pv 0) pe_int (nomark _)) (pss_one (ps_ret (pe_ifExp (pt_val (pv 2)) (pe_mkVk (T.mk_37 w) T.gC_37 T.kC_37 hr (pk_cons (pv 1) pk_nil)) (pe_mkV (T.md_37 w) T.gC_37 T.kC_37 hr (pa_cons (pv 1) pa_nil))))) pss_nil)
    (pss_cons (ps_if (pt_cmpR (k_eq (K := K) rfl hr.units) (pv 0) pe_int (nomark _)) (pss_one (ps_ret (pe_ifExp (pt_val (pv 2)) (pe_mkVk (T.mk_38 w) T.gC_38 T.kC_38 hr (pk_cons (pv 1) pk_nil)) (pe_mkV (T.md_38 w) T.gC_38 T.kC_38 hr (pa_cons (pv 1) pa_nil))))) pss_nil)
    (pss_cons (ps_if (pt_cmpR (k_eq (K := K) rfl hr.units) (pv 0) pe_int (nomark _)) (pss_one (ps_ret (pe_ifExp (pt_val (pv 2)) (pe_mkVk (T.mk_39 w) T.gC_39 T.kC_39 hr (pk_cons (pv 1) pk_nil)) (pe_mkV (T.md_39 w) T.gC_39 T.kC_39 hr (pa_cons (pv 1) pa_nil))))) pss_nil)
    (pss_cons (ps_if (pt_cmpR (k_eq (K := K) rfl hr.units) (pv 0) pe_int (nomark _)) (pss_one (ps_ret (pe_ifExp (pt_val (pv 2)) (pe_mkVk (T.mk_40 w) T.gC_40 T.kC_40 hr (pk_cons (pv 1) pk_nil)) (pe_mkV (T.md_40 w) T.gC_40 T.kC_40 hr (pa_cons (pv 1) pa_nil))))) pss_nil)
    (pss_cons (ps_if (pt_cmpR (k_eq (K := K) rfl hr.units) (pv 0) pe_int (nomark _)) (pss_one (ps_ret (pe_ifExp (pt_val (pv 2)) (pe_mkVk (T.mk_41 w) T.gC_41 T.kC_41 hr (pk_cons (pv 1) pk_nil)) (pe_mkV (T.md_41 w) T.gC_41 T.kC_41 hr (pa_cons (pv 1) pa_nil))))) pss_nil)
    (pss_cons (ps_if (pt_cmpR (k_eq (K := K) rfl hr.units) (pv 0) pe_int (nomark _)) (pss_one (ps_ret (pe_ifExp (pt_val (pv 2)) (pe_mkVk (T.mk_42 w) T.gC_42 T.kC_42 hr (pk_cons (pv 1) pk_nil)) (pe_mkV (T.md_42 w) T.gC_42 T.kC_42 hr (pa_cons (pv 1) pa_nil))))) pss_nil)
    (pss_cons (ps_if (pt_cmpR (k_eq (K := K) rfl hr.units) (pv 0) pe_int (nomark _)) (pss_one (ps_ret (pe_ifExp (pt_val (pv 2)) (pe_mkVk (T.mk_43 w) T.gC_43 T.kC_43 hr (pk_cons (pv 1) pk_nil)) (pe_mkV (T.md_43 w) T.gC_43 T.kC_43 hr (pa_cons (pv 1) pa_nil))))) pss_nil)
    (pss_cons (ps_if (pt_cmpR (k_eq (K := K) rfl hr.units) (pv 0) pe_int (nomark _)) (pss_one (ps_ret (pe_ifExp (pt_val (pv 2)) (pe_mkVk (T.mk_44 w) T.gC_44 T.kC_44 hr (pk_cons (pv 1) pk_nil)) (pe_mkV (T.md_44 w) T.gC_44 T.kC_44 hr (pa_cons (pv 1) pa_nil))))) pss_nil)
    (pss_cons (ps_if (pt_cmpR (k_eq (K := K) rfl hr.units) (pv 0) pe_int (nomark _)) (pss_one (ps_ret (pe_ifExp (pt_val (pv 2)) (pe_mkVk (T.mk_45 w) T.gC_45 T.kC_45 hr (pk_cons (pv 1) pk_nil)) (pe_mkV (T.md_45 w) T.gC_45 T.kC_45 hr (pa_cons (pv 1) pa_nil))))) pss_nil)
    (pss_cons (ps_if (pt_cmpR (k_eq (K := K) rfl hr.units) (pv 0) pe_int (nomark _)) (pss_one (ps_ret (pe_ifExp (pt_val (pv 2)) (pe_mkVk (T.mk_46 w) T.gC_46 T.kC_46 hr (pk_cons (pe_tup (pa_cons (pv 1) pa_nil)) (pk_cons (pv 1) pk_nil))) (pe_mkV (T.md_46 w) T.gC_46 T.kC_46 hr (pa_cons (pv 1) (pa_cons (pe_tup (pa_cons (pv 1) pa_nil)) pa_nil)))))) pss_nil)
    (pss_one (ps_ret (pe_ifExp (pt_cmpR (k_eq (K := K) rfl hr.units) (pv 0) pe_int (nomark _)) (pe_mkV0 (T.md_47 w) T.gC_47 T.kC_47 hr) (pe_mkV0 (T.md_48 w) T.gC_48 T.kC_48 hr))))))))))))))))))))))))))), fun W x hC => ?_⟩
  obtain ⟨k, u, b⟩ := x
  obtain ⟨k1, k2⟩ : 24 ≤ k ∧ k < 49 := hC
  dsimp only
  refine tys_made (n := 24) rfl rfl (fun e => by subst e; exact ty_mkG (by decide) (tya_cons (ty_var rfl) tya_nil)) (fun e => by subst e; exact ty_mkG (by decide) (tya_cons (ty_var rfl) tya_nil)) fun n24 => ?_
  refine tys_made (n := 25) rfl rfl (fun e => by subst e; exact ty_mkG (by decide) (tya_cons (ty_var rfl) tya_nil)) (fun e => by subst e; exact ty_mkG (by decide) (tya_cons (ty_var rfl) tya_nil)) fun n25 => ?_
  refine tys_made (n := 26) rfl rfl (fun e => by subst e; exact ty_mkG (by decide) (tya_cons (ty_var rfl) tya_nil)) (fun e => by subst e; exact ty_mkG (by decide) (tya_cons (ty_var rfl) tya_nil)) fun n26 => ?_
  refine tys_made (n := 27) rfl rfl (fun e => by subst e; exact ty_mkG (by decide) (tya_cons (ty_var rfl) tya_nil)) (fun e => by subst e; exact ty_mkG (by decide) (tya_cons (ty_var rfl) tya_nil)) fun n27 => ?_
  refine tys_made (n := 28) rfl rfl (fun e => by subst e; exact ty_mkG (by decide) (tya_cons (ty_var rfl) tya_nil)) (fun e => by subst e; exact ty_mkG (by decide) (tya_cons (ty_var rfl) tya_nil)) fun n28 => ?_
  refine tys_made (n := 29) rfl rfl (fun e => by subst e; exact ty_mkG (by decide) (tya_cons (ty_var rfl) tya_nil)) (fun e => by subst e; exact ty_mkG (by decide) (tya_cons (ty_var rfl) tya_nil)) fun n29 => ?_
  refine tys_made (n := 30) rfl rfl (fun e => by subst e; exact ty_mkG (by decide) (tya_cons (ty_var rfl) tya_nil)) (fun e => by subst e; exact ty_mkG (by decide) (tya_cons (ty_var rfl) tya_nil)) fun n30 => ?_
  refine tys_made (n := 31) rfl rfl (fun e => by subst e; exact ty_mkG (by decide) (tya_cons (ty_var rfl) tya_nil)) (fun e => by subst e; exact ty_mkG (by decide) (tya_cons (ty_var rfl) tya_nil)) fun n31 => ?_
  refine tys_made (n := 32) rfl rfl (fun e => by subst e; exact ty_mkG (by decide) (tya_cons (ty_var rfl) tya_nil)) (fun e => by subst e; exact ty_mkG (by decide) (tya_cons (ty_var rfl) tya_nil)) fun n32 => ?_
  refine tys_made (n := 33) rfl rfl (fun e => by subst e; exact ty_mkG (by decide) (tya_cons (ty_var rfl) tya_nil)) (fun e => by subst e; exact ty_mkG (by decide) (tya_cons (ty_var rfl) tya_nil)) fun n33 => ?_
  refine tys_made (n := 34) rfl rfl (fun e => by subst e; exact ty_mkG (by decide) (tya_cons (ty_var rfl) tya_nil)) (fun e => by subst e; exact ty_mkG (by decide) (tya_cons (ty_var rfl) tya_nil)) fun n34 => ?_
  refine tys_made (n := 35) rfl rfl (fun e => by subst e; exact ty_mkG (by decide) (tya_cons (ty_var rfl) tya_nil)) (fun e => by subst e; exact ty_mkG (by decide) (tya_cons (ty_var rfl) tya_nil)) fun n35 => ?_
  refine tys_made (n := 36) rfl rfl (fun e => by subst e; exact ty_mkG (by decide) (tya_cons (ty_var rfl) tya_nil)) (fun e => by subst e; exact ty_mkG (by decide) (tya_cons (ty_var rfl) tya_nil)) fun n36 => ?_
  refine tys_made (n := 37) rfl rfl (fun e => by subst e; exact ty_mkO (by decide) rfl (by decide) (tya_cons (ty_var rfl) tya_nil)) (fun e => by subst e; exact ty_mkO (by decide) rfl (by decide) (tya_cons (ty_var rfl) tya_nil)) fun n37 => ?_
  refine tys_made (n := 38) rfl rfl (fun e => by subst e; exact ty_mkO (by decide) rfl (by decide) (tya_cons (ty_var rfl) tya_nil)) (fun e => by subst e; exact ty_mkO (by decide) rfl (by decide) (tya_cons (ty_var rfl) tya_nil)) fun n38 => ?_
  refine tys_made (n := 39) rfl rfl (fun e => by subst e; exact ty_mkO (by decide) rfl (by decide) (tya_cons (ty_var rfl) tya_nil)) (fun e => by subst e; exact ty_mkO (by decide) rfl (by decide) (tya_cons (ty_var rfl) tya_nil)) fun n39 => ?_
  refine tys_made (n := 40) rfl rfl (fun e => by subst e; exact ty_mkO (by decide) rfl (by decide) (tya_cons (ty_var rfl) tya_nil)) (fun e => by subst e; exact ty_mkO (by decide) rfl (by decide) (tya_cons (ty_var rfl) tya_nil)) fun n40 => ?_
  refine tys_made (n := 41) rfl rfl (fun e => by subst e; exact ty_mkO (by decide) rfl (by decide) (tya_cons (ty_var rfl) tya_nil)) (fun e => by subst e; exact ty_mkO (by decide) rfl (by decide) (tya_cons (ty_var rfl) tya_nil)) fun n41 => ?_
  refine tys_made (n := 42) rfl rfl (fun e => by subst e; exact ty_mkO (by decide) rfl (by decide) (tya_cons (ty_var rfl) tya_nil)) (fun e => by subst e; exact ty_mkO (by decide) rfl (by decide) (tya_cons (ty_var rfl) tya_nil)) fun n42 => ?_
  refine tys_made (n := 43) rfl rfl (fun e => by subst e; exact ty_mkO (by decide) rfl (by decide) (tya_cons (ty_var rfl) tya_nil)) (fun e => by subst e; exact ty_mkO (by decide) rfl (by decide) (tya_cons (ty_var rfl) tya_nil)) fun n43 => ?_
  refine tys_made (n := 44) rfl rfl (fun e => by subst e; exact ty_mkO (by decide) rfl (by decide) (tya_cons (ty_var rfl) tya_nil)) (fun e => by subst e; exact ty_mkO (by decide) rfl (by decide) (tya_cons (ty_var rfl) tya_nil)) fun n44 => ?_
  refine tys_made (n := 45) rfl rfl (fun e => by subst e; exact ty_mkO (by decide) rfl (by decide) (tya_cons (ty_var rfl) tya_nil)) (fun e => by subst e; exact ty_mkO (by decide) rfl (by decide) (tya_cons (ty_var rfl) tya_nil)) fun n45 => ?_
  refine tys_made (n := 46) rfl rfl (fun e => by subst e; exact ty_mkUk (tya_cons (ty_tup (K := K) (tya_cons (ty_var rfl) tya_nil) (by show 1 ≤ 1000000; decide)) (tya_cons (ty_var rfl) tya_nil))) (fun e => by subst e; exact ty_mkU (tya_cons (ty_var rfl) (tya_cons (ty_tup (K := K) (tya_cons (ty_var rfl) tya_nil) (by show 1 ≤ 1000000; decide)) tya_nil))) fun n46 => ?_
  refine TyS.never (tys_retW (ty_if (φ := (· = decide (k = 47))) (Tt.is (tt_test (ty_op (ty_var rfl) ty_int opt_eqI)) (decide_eq_decide.mpr (by omega))) (fun z => ?_) fun z => ?_))
  · have e := of_decide_eq_true z.symm
    subst e
    exact ty_mkN (by decide)
  · have e := of_decide_eq_false z.symm
    have e : k = 48 := by omega
    subst e
    exact ty_mkN (by decide)
end
section
variable {P : Program} {w : World} {K : PySem.W.Frag} {mg : Str → Option Value} {base : Heap}
def sp_law_made_0 (T : Tx P K mg) : Sp := spT (fun x : Nat × V × Bool => x.1 < 49) (fun x => [dt K (.int (x.1 : Nat)), isV x.2.1, dt K (.bool x.2.2)]) (fun x => eoK K T.cl x.1 x.2.1)
theorem ok_law_made_0 (T : Tx P K mg) : FnOk P w K mg base (L2.CX P w) 2 T.a_law_made_0 T.f_law_made_0 ["k", "given", "by_name"] (sp_law_made_0 T) := by
  have G_law_made_1 := ok_law_made_1 (w := w) (base := base) T
  have nd := sc_law_made_0.nd
  refine fn_ty T.F_law_made_0 sc_law_made_0 (fun x _ => rfl) fun cdv Ar outer s H E hr => ⟨_, (pss_cons (ps_if (pt_cmpR (k_eq (K := K) rfl hr.units) (pv 0) pe_int (nomark _)) (pss_one (ps_ret (pe_ifExp (pt_val (pv 2)) (pe_mkVk (T.mk_0 w) T.gC_0 T.kC_0 hr (pk_cons (pv 1) pk_nil)) (pe_mkV (T.md_0 w) T.gC_0 T.kC_0 hr (pa_cons (pv 1) pa_nil))))) pss_nil)
    (pss_cons (ps_if (pt_cmpR (k_eq (K := K) rfl hr.units) (pv 0) pe_int (nomark _)) (pss_one (ps_ret (pe_ifExp (pt_val (pv 2)) (pe_mkVk (T.mk_1 w) T.gC_1 T.kC_1 hr (pk_cons (pv 1) pk_nil)) (pe_mkV (T.md_1 w) T.gC_1 T.kC_1 hr (pa_cons (pv 1) pa_nil))))) pss_nil)
    (pss_cons (ps_if (pt_cmpR (k_eq (K := K) rfl hr.units) (pv 0) pe_int (nomark _)) (pss_one (ps_ret (pe_ifExp (pt_val (pv 2)) (pe_mkVk (T.mk_2 w) T.gC_2 T.kC_2 hr (pk_cons (pv 1) pk_nil)) (pe_mkV (T.md_2 w) T.gC_2 T.kC_2 hr (pa_cons (pv 1) pa_nil))))) pss_nil)
    (pss_cons (ps_if (pt_cmpR (k_eq (K := K) rfl hr.units) (pv 0) pe_int (nomark _)) (pss_one (ps_ret (pe_ifExp (pt_val (pv 2)) (pe_mkVk (T.mk_3 w) T.gC_3 T.kC_3 hr (pk_cons (pv 1) pk_nil)) (pe_mkV (T.md_3 w) T.gC_3 T.kC_3 hr (pa_cons (pv 1) pa_nil))))) pss_nil)
    (pss_cons (ps_if (pt_cmpR (k_eq (K := K) rfl hr.units) (pv 0) pe_int (nomark _)) (pss_one (ps_ret (pe_ifExp (pt_val (pv 2)) (pe_mkVk (T.mk_4 w) T.gC_4 T.kC_4 hr (pk_cons (pv 1) pk_nil)) (pe_mkV (T.md_4 w) T.gC_4 T.kC_4 hr (pa_cons (pv 1) pa_nil))))) pss_nil)
    (pss_cons (ps_if (pt_cmpR (k_eq (K := K) rfl hr.units) (pv 0) pe_int (nomark _)) (pss_one (ps_ret (pe_ifExp (pt_val (pv 2)) (pe_mkVk (T.mk_5 w) T.gC_5 T.kC_5 hr (pk_cons (pv 1) pk_nil)) (pe_mkV (T.md_5 w) T.gC_5 T.kC_5 hr (pa_cons (pv 1) pa_nil))))) pss_nil)
    (pss_cons (ps_if (pt_cmpR (k_eq (K := K) rfl hr.units) (pv 0) pe_int (nomark _)) (pss_one (ps_ret (pe_ifExp (pt_val (pv 2)) (pe_mkVk (T.mk_6 w) T.gC_6 T.kC_6 hr (pk_cons (pv 1) pk_nil)) (pe_mkV (T.md_6 w) T.gC_6 T.kC_6 hr (pa_cons (pv 1) pa_nil))))) pss_nil)
    (pss_cons (ps_if (pt_cmpR (k_eq (K := K) rfl hr.units) (pv 0) pe_int (nomark _)) (pss_one (ps_ret (pe_ifExp (pt_val (pv 2)) (pe_mkVk (T.mk_7 w) T.gC_7 T.kC_7 hr (pk_cons (pv 1) pk_nil)) (pe_mkV (T.md_7 w) T.gC_7 T.kC_7 hr (pa_cons (pv 1) pa_nil))))) pss_nil)
    (pss_cons (ps_if (pt_cmpR (k_eq (K := K) rfl hr.units) (pv 0) pe_int (nomark _)) (pss_one (ps_ret (pe_ifExp (pt_val (pv 2)) (pe_mkVk (T.mk_8 w) T.gC_8 T.kC_8 hr (pk_cons (pv 1) pk_nil)) (pe_mkV (T.md_8 w) T.gC_8 T.kC_8 hr (pa_cons (pv 1) pa_nil))))) pss_nil)
    (pss_cons (ps_if (pt_cmpR (k_eq (K := K) rfl hr.units) (pv 0) pe_int (nomark _)) (pss_one (ps_ret (pe_ifExp (pt_val (pv 2)) (pe_mkVk (T.mk_9 w) T.gC_9 T.kC_9 hr (pk_cons (pv 1) pk_nil)) (pe_mkV (T.md_9 w) T.gC_9 T.kC_9 hr (pa_cons (pv 1) pa_nil))))) pss_nil)
    (pss_cons (ps_if (pt_cmpR (k_eq (K := K) rfl hr.units) (pv 0) pe_int (nomark _)) (pss_one (ps_ret (pe_ifExp (pt_val (pv 2)) (pe_mkVk (T.mk_10 w) T.gC_10 T.kC_10 hr (pk_cons (pv 1) pk_nil)) (pe_mkV (T.md_10 w) T.gC_10 T.kC_10 hr (pa_cons (pv 1) pa_nil))))) pss_nil)
    (pss_cons (ps_if (pt_cmpR (k_eq (K := K) rfl hr.units) (pv 0) pe_int (nomark _)) (pss_one (ps_ret (pe_ifExp (pt_val (pv 2)) (pe_mkVk (T.mk_11 w) T.gC_11 T.kC_11 hr (pk_cons (pv 1) pk_nil)) (pe_mkV (T.md_11 w) T.gC_11 T.kC_11 hr (pa_cons (pv 1) pa_nil))))) pss_nil)
    (pss_cons (ps_if (pt_cmpR (k_eq (K := K) rfl hr.units) (pv 0) pe_int (nomark _)) (pss_one (ps_ret (pe_ifExp (pt_val (pv 2)) (pe_mkVk (T.mk_12 w) T.gC_12 T.kC_12 hr (pk_cons (pv 1) pk_nil)) (pe_mkV (T.md_12 w) T.gC_12 T.kC_12 hr (pa_cons (pv 1) pa_nil))))) pss_nil)
    (pss_cons (ps_if (pt_cmpR (k_eq (K := K) rfl hr.units) (pv 0) pe_int (nomark _)) (pss_one (ps_ret (pe_ifExp (pt_val (pv 2)) (pe_mkVk (T.mk_13 w) T.gC_13 T.kC_13 hr (pk_cons (pv 1) pk_nil)) (pe_mkV (T.md_13 w) T.gC_13 T.kC_13 hr (pa_cons (pv 1) pa_nil))))) pss_nil)
    (pss_cons (ps_if (pt_cmpR (k_eq (K := K) rfl hr.units) (pv 0) pe_int (nomark _)) (pss_one (ps_ret (pe_ifExp (pt_val (pv 2)) (pe_mkVk (T.mk_14 w) T.gC_14 T.kC_14 hr (pk_cons (pv 1) pk_nil)) (pe_mkV (T.md_14 w) T.gC_14 T.kC_14 hr (pa_cons (pv 1) pa_nil))))) pss_nil)
    (pss_cons (ps_if (pt_cmpR (k_eq (K := K) rfl hr.units) (pv 0) pe_int (nomark _)) (pss_one (ps_ret (pe_ifExp (pt_val (pv 2)) (pe_mkVk (T.mk_15 w) T.gC_15 T.kC_15 hr (pk_cons (pv 1) pk_nil)) (pe_mkV (T.md_15 w) T.gC_15 T.kC_15 hr (pa_cons (pv 1) pa_nil))))) pss_nil)
    (pss_cons (ps_if (pt_cmpR (k_eq (K := K) rfl hr.units) (pv 0) pe_int (nomark _)) (pss_one (ps_ret (pe_ifExp (pt_val (pv 2)) (pe_mkVk (T.mk_16 w) T.gC_16 T.kC_16 hr (pk_cons (pv 1) pk_nil)) (pe_mkV (T.md_16 w) T.gC_16 T.kC_16 hr (pa_cons (pv 1) pa_nil))))) pss_nil)
    (pss_cons (ps_if (pt_cmpR (k_eq (K := K) rfl hr.units) (pv 0) pe_int (nomark _)) (pss_one (ps_ret (pe_ifExp (pt_val (pv 2)) (pe_mkVk (T.mk_17 w) T.gC_17 T.kC_17 hr (pk_cons (pv 1) pk_nil)) (pe_mkV (T.md_17 w) T.gC_17 T.kC_17 hr (pa_cons (pv 1) pa_nil))))) pss_nil)
    (pss_cons (ps_if (pt_cmpR (k_eq (K := K) rfl hr.units) (pv 0) pe_int (nomark _)) (pss_one (ps_ret (pe_ifExp (pt_val (pv 2)) (pe_mkVk (T.mk_18 w) T.gC_18 T.kC_18 hr (pk_cons (pv 1) pk_nil)) (pe_mkV (T.md_18 w) T.gC_18 T.kC_18 hr (pa_cons (pv 1) pa_nil))))) pss_nil)
    (pss_cons (ps_if (pt_cmpR (k_eq (K := K) rfl hr.units) (pv 0) pe_int (nomark _)) (pss_one (ps_ret (pe_ifExp (pt_val (pv 2)) (pe_mkVk (T.mk_19 w) T.gC_19 T.kC_19 hr (pk_cons (pv 1) pk_nil)) (pe_mkV (T.md_19 w) T.gC_19 T.kC_19 hr (pa_cons (pv 1) pa_nil))))) pss_nil)
    (pss_cons (ps_if (pt_cmpR (k_eq (K := K) rfl hr.units) (pv 0) pe_int (nomark _)) (pss_one (ps_ret (pe_ifExp (pt_val (pv 2)) (pe_mkVk (T.mk_20 w) T.gC_20 T.kC_20 hr (pk_cons (pv 1) pk_nil)) (pe_mkV (T.md_20 w) T.gC_20 T.kC_20 hr (pa_cons (pv 1) pa_nil))))) pss_nil)
    (pss_cons (ps_if (pt_cmpR (k_eq (K := K) rfl hr.units) (pv 0) pe_int (nomark _)) (pss_one (ps_ret (pe_ifExp (pt_val (pv 2)) (pe_mkVk (T.mk_21 w) T.gC_21 T.kC_21 hr (pk_cons (pv 1) pk_nil)) (pe_mkV (T.md_21 w) T.gC_21 T.kC_21 hr (pa_cons (pv 1) pa_nil))))) pss_nil)
    (pss_cons (ps_if (pt_cmpR (k_eq (K := K) rfl hr.units) (pv 0) pe_int (nomark _)) (pss_one (ps_ret (pe_ifExp (pt_val (pv 2)) (pe_mkVk (T.mk_22 w) T.gC_22 T.kC_22 hr (pk_cons (pv 1) pk_nil)) (pe_mkV (T.md_22 w) T.gC_22 T.kC_22 hr (pa_cons (pv 1) pa_nil))))) pss_nil)
    (pss_cons (ps_if (pt_cmpR (k_eq (K := K) rfl hr.units) (pv 0) pe_int (nomark _)) (pss_one (ps_ret (pe_ifExp (pt_val (pv 2)) (pe_mkVk (T.mk_23 w) T.gC_23 T.kC_23 hr (pk_cons (pv 1) pk_nil)) (pe_mkV (T.md_23 w) T.gC_23 T.kC_23 hr (pa_cons (pv 1) pa_nil))))) pss_nil)
    (pss_one (ps_ret (pcall G_law_made_1 (hr.mono (by decide)) T.D_law_made_1 (pa_cons (pv 0) (pa_cons (pv 1) (pa_cons (pv 2) pa_nil)))))))))))))))))))))))))))))), fun W x hC => ?_⟩
  obtain ⟨k, u, b⟩ := x
  have hk : k < 49 := hC
  dsimp only
  refine tys_made (n := 0) rfl rfl (fun e => by subst e; exact ty_mkG (by decide) (tya_cons (ty_var rfl) tya_nil)) (fun e => by subst e; exact ty_mkG (by decide) (tya_cons (ty_var rfl) tya_nil)) fun n0 => ?_
  refine tys_made (n := 1) rfl rfl (fun e => by subst e; exact ty_mkG (by decide) (tya_cons (ty_var rfl) tya_nil)) (fun e => by subst e; exact ty_mkG (by decide) (tya_cons (ty_var rfl) tya_nil)) fun n1 => ?_
  refine tys_made (n := 2) rfl rfl (fun e => by subst e; exact ty_mkG (by decide) (tya_cons (ty_var rfl) tya_nil)) (fun e => by subst e; exact ty_mkG (by decide) (tya_cons (ty_var rfl) tya_nil)) fun n2 => ?_
  refine tys_made (n := 3) rfl rfl (fun e => by subst e; exact ty_mkG (by decide) (tya_cons (ty_var rfl) tya_nil)) (fun e => by subst e; exact ty_mkG (by decide) (tya_cons (ty_var rfl) tya_nil)) fun n3 => ?_
  refine tys_made (n := 4) rfl rfl (fun e => by subst e; exact ty_mkG (by decide) (tya_cons (ty_var rfl) tya_nil)) (fun e => by subst e; exact ty_mkG (by decide) (tya_cons (ty_var rfl) tya_nil)) fun n4 => ?_
  refine tys_made (n := 5) rfl rfl (fun e => by subst e; exact ty_mkG (by decide) (tya_cons (ty_var rfl) tya_nil)) (fun e => by subst e; exact ty_mkG (by decide) (tya_cons (ty_var rfl) tya_nil)) fun n5 => ?_
  refine tys_made (n := 6) rfl rfl (fun e => by subst e; exact ty_mkG (by decide) (tya_cons (ty_var rfl) tya_nil)) (fun e => by subst e; exact ty_mkG (by decide) (tya_cons (ty_var rfl) tya_nil)) fun n6 => ?_
  refine tys_made (n := 7) rfl rfl (fun e => by subst e; exact ty_mkG (by decide) (tya_cons (ty_var rfl) tya_nil)) (fun e => by subst e; exact ty_mkG (by decide) (tya_cons (ty_var rfl) tya_nil)) fun n7 => ?_
  refine tys_made (n := 8) rfl rfl (fun e => by subst e; exact ty_mkG (by decide) (tya_cons (ty_var rfl) tya_nil)) (fun e => by subst e; exact ty_mkG (by decide) (tya_cons (ty_var rfl) tya_nil)) fun n8 => ?_
  refine tys_made (n := 9) rfl rfl (fun e => by subst e; exact ty_mkG (by decide) (tya_cons (ty_var rfl) tya_nil)) (fun e => by subst e; exact ty_mkG (by decide) (tya_cons (ty_var rfl) tya_nil)) fun n9 => ?_
  refine tys_made (n := 10) rfl rfl (fun e => by subst e; exact ty_mkG (by decide) (tya_cons (ty_var rfl) tya_nil)) (fun e => by subst e; exact ty_mkG (by decide) (tya_cons (ty_var rfl) tya_nil)) fun n10 => ?_
  refine tys_made (n := 11) rfl rfl (fun e => by subst e; exact ty_mkG (by decide) (tya_cons (ty_var rfl) tya_nil)) (fun e => by subst e; exact ty_mkG (by decide) (tya_cons (ty_var rfl) tya_nil)) fun n11 => ?_
  refine tys_made (n := 12) rfl rfl (fun e => by subst e; exact ty_mkG (by decide) (tya_cons (ty_var rfl) tya_nil)) (fun e => by subst e; exact ty_mkG (by decide) (tya_cons (ty_var rfl) tya_nil)) fun n12 => ?_
  refine tys_made (n := 13) rfl rfl (fun e => by subst e; exact ty_mkG (by decide) (tya_cons (ty_var rfl) tya_nil)) (fun e => by subst e; exact ty_mkG (by decide) (tya_cons (ty_var rfl) tya_nil)) fun n13 => ?_
  refine tys_made (n := 14) rfl rfl (fun e => by subst e; exact ty_mkG (by decide) (tya_cons (ty_var rfl) tya_nil)) (fun e => by subst e; exact ty_mkG (by decide) (tya_cons (ty_var rfl) tya_nil)) fun n14 => ?_
  refine tys_made (n := 15) rfl rfl (fun e => by subst e; exact ty_mkG (by decide) (tya_cons (ty_var rfl) tya_nil)) (fun e => by subst e; exact ty_mkG (by decide) (tya_cons (ty_var rfl) tya_nil)) fun n15 => ?_
  refine tys_made (n := 16) rfl rfl (fun e => by subst e; exact ty_mkG (by decide) (tya_cons (ty_var rfl) tya_nil)) (fun e => by subst e; exact ty_mkG (by decide) (tya_cons (ty_var rfl) tya_nil)) fun n16 => ?_
  refine tys_made (n := 17) rfl rfl (fun e => by subst e; exact ty_mkG (by decide) (tya_cons (ty_var rfl) tya_nil)) (fun e => by subst e; exact ty_mkG (by decide) (tya_cons (ty_var rfl) tya_nil)) fun n17 => ?_
  refine tys_made (n := 18) rfl rfl (fun e => by subst e; exact ty_mkG (by decide) (tya_cons (ty_var rfl) tya_nil)) (fun e => by subst e; exact ty_mkG (by decide) (tya_cons (ty_var rfl) tya_nil)) fun n18 => ?_
  refine tys_made (n := 19) rfl rfl (fun e => by subst e; exact ty_mkG (by decide) (tya_cons (ty_var rfl) tya_nil)) (fun e => by subst e; exact ty_mkG (by decide) (tya_cons (ty_var rfl) tya_nil)) fun n19 => ?_
  refine tys_made (n := 20) rfl rfl (fun e => by subst e; exact ty_mkG (by decide) (tya_cons (ty_var rfl) tya_nil)) (fun e => by subst e; exact ty_mkG (by decide) (tya_cons (ty_var rfl) tya_nil)) fun n20 => ?_
  refine tys_made (n := 21) rfl rfl (fun e => by subst e; exact ty_mkG (by decide) (tya_cons (ty_var rfl) tya_nil)) (fun e => by subst e; exact ty_mkG (by decide) (tya_cons (ty_var rfl) tya_nil)) fun n21 => ?_
  refine tys_made (n := 22) rfl rfl (fun e => by subst e; exact ty_mkG (by decide) (tya_cons (ty_var rfl) tya_nil)) (fun e => by subst e; exact ty_mkG (by decide) (tya_cons (ty_var rfl) tya_nil)) fun n22 => ?_
  refine tys_made (n := 23) rfl rfl (fun e => by subst e; exact ty_mkG (by decide) (tya_cons (ty_var rfl) tya_nil)) (fun e => by subst e; exact ty_mkG (by decide) (tya_cons (ty_var rfl) tya_nil)) fun n23 => ?_
  exact TyS.never (tys_retW (ty_call (k, u, b) ⟨by omega, hk⟩ (tya_cons (ty_var rfl) (tya_cons (ty_var rfl) (tya_cons (ty_var rfl) tya_nil)))))
end
section
variable {P : Program} {w : World} {K : PySem.W.Frag} {mg : Str → Option Value} {base : Heap}
def wIs (cl : Nat → Addr) (r : List V → Hp → VK → Prop) (j : Nat) : TE := tCB r (tCons (tVar 0) (tCons (tC (.ref (cl j))) tNil))
/-- the body's word, by the answer of isinstance -/
def wClasses (K : PySem.W.Frag) (cl : Nat → Addr) (r : List V → Hp → VK → Prop) : TS := (tSeq (tAsg (tLst tNil) (gName 1)) (tSeq (tAsg (tOp (rAddA K) (tVar 1) (tLst (tCons (wIs cl r 0) (tCons (wIs cl r 1) (tCons (wIs cl r 2) (tCons (wIs cl r 3) tNil)))))) (gName 1)) (tSeq (tAsg (tOp (rAddA K) (tVar 1) (tLst (tCons (wIs cl r 4) (tCons (wIs cl r 5) (tCons (wIs cl r 6) (tCons (wIs cl r 7) tNil)))))) (gName 1)) (tSeq (tAsg (tOp (rAddA K) (tVar 1) (tLst (tCons (wIs cl r 8) (tCons (wIs cl r 9) (tCons (wIs cl r 10) (tCons (wIs cl r 11) tNil)))))) (gName 1)) (tSeq (tAsg (tOp (rAddA K) (tVar 1) (tLst (tCons (wIs cl r 12) (tCons (wIs cl r 13) (tCons (wIs cl r 14) (tCons (wIs cl r 15) tNil)))))) (gName 1)) (tSeq (tAsg (tOp (rAddA K) (tVar 1) (tLst (tCons (wIs cl r 16) (tCons (wIs cl r 17) (tCons (wIs cl r 18) (tCons (wIs cl r 19) tNil)))))) (gName 1)) (tSeq (tAsg (tOp (rAddA K) (tVar 1) (tLst (tCons (wIs cl r 20) (tCons (wIs cl r 21) (tCons (wIs cl r 22) (tCons (wIs cl r 23) tNil)))))) (gName 1)) (tSeq (tAsg (tOp (rAddA K) (tVar 1) (tLst (tCons (wIs cl r 24) (tCons (wIs cl r 25) (tCons (wIs cl r 26) (tCons (wIs cl r 27) tNil)))))) (gName 1)) (tSeq (tAsg (tOp (rAddA K) (tVar 1) (tLst (tCons (wIs cl r 28) (tCons (wIs cl r 29) (tCons (wIs cl r 30) (tCons (wIs cl r 31) tNil)))))) (gName 1)) (tSeq (tAsg (tOp (rAddA K) (tVar 1) (tLst (tCons (wIs cl r 32) (tCons (wIs cl r 33) (tCons (wIs cl r 34) (tCons (wIs cl r 35) tNil)))))) (gName 1)) (tSeq (tAsg (tOp (rAddA K) (tVar 1) (tLst (tCons (wIs cl r 36) (tCons (wIs cl r 37) (tCons (wIs cl r 38) (tCons (wIs cl r 39) tNil)))))) (gName 1)) (tSeq (tAsg (tOp (rAddA K) (tVar 1) (tLst (tCons (wIs cl r 40) (tCons (wIs cl r 41) (tCons (wIs cl r 42) (tCons (wIs cl r 43) tNil)))))) (gName 1)) (tSeq (tAsg (tOp (rAddA K) (tVar 1) (tLst (tCons (wIs cl r 44) (tCons (wIs cl r 45) (tCons (wIs cl r 46) (tCons (wIs cl r 47) tNil)))))) (gName 1)) (tSeq (tAsg (tOp (rAddA K) (tVar 1) (tLst (tCons (wIs cl r 48) tNil))) (gName 1)) (tRet (tLc (iRng1 (tCons (tCB (Ew.rLen K) (tCons (tVar 1) tNil)) tNil)) (gName 2) (tB (tOp (rIx K) (tVar 1) (tVar 2))) (tVar 2) [2]))))))))))))))))
def bsT (K : PySem.W.Frag) (k m : Nat) : List Typ := (List.range m).map fun j => dt K (.bool (decide (k = j)))
section
variable {W : Wd} {Γ : Gam} {K : PySem.W.Frag} {te : TE} {tl : TA} {k m n : Nat} {Us : List Typ}
theorem ty_cls (h : Ty W Γ te (lstT (bsT K k m))) (hl : TyA W Γ tl Us) (e : bsT K k m ++ Us = bsT K k (m + n)) (hz : m + n ≤ 1000000) : Ty W Γ (tOp (rAddA K) te (tLst tl)) (lstT (bsT K k (m + n))) := by
  have l : (bsT K k m ++ Us).length = m + n := by rw [e]; unfold bsT; rw [List.length_map, List.length_range]
  rw [List.length_append] at l
  rw [← e]
  exact ty_op h (tyl_lst hl (by omega)).ty (opt_catL (by omega))
end
theorem tys_classes {W : Wd} {K : PySem.W.Frag} {cl : Nat → Addr} {r : List V → Hp → VK → Prop} {k : Nat} {T0 : Typ} {N : Sx → Hp → Prop} {Bk Ct : Sx → Hp → Prop} (hk : k < 49) (hr : ∀ j, j < 49 → CbT W r [T0, isV (.ref (cl j))] (dt K (.bool (decide (k = j))))) :
    TyS W [some T0, none, none] (wClasses K cl r) N (rW W (dt K (.list [.int (k : Nat)]))) Bk Ct := by
  have is : ∀ {Γ : Gam} (j : Nat), j < 49 → Γ[0]? = some (some T0) → Ty W Γ (wIs cl r j) (dt K (.bool (decide (k = j)))) := fun j h g => ty_cb (tya_cons (ty_var g) (tya_cons ty_c tya_nil)) (hr j h)
  unfold wClasses
  refine tys_seqE (tys_set (T := lstT (bsT K k 0)) (tyl_lst (Ts := []) tya_nil (by decide)).ty) ?_
  show TyS W [some T0, some (lstT (bsT K k 0)), none] _ _ _ _ _
  refine tys_seqE (tys_set (ty_cls (m := 0) (n := 4) (ty_var rfl) (tya_cons (is 0 (by decide) rfl) (tya_cons (is 1 (by decide) rfl) (tya_cons (is 2 (by decide) rfl) (tya_cons (is 3 (by decide) rfl) tya_nil)))) rfl (by decide))) ?_
  show TyS W [some T0, some (lstT (bsT K k 4)), none] _ _ _ _ _
  refine tys_seqE (tys_set (ty_cls (m := 4) (n := 4) (ty_var rfl) (tya_cons (is 4 (by decide) rfl) (tya_cons (is 5 (by decide) rfl) (tya_cons (is 6 (by decide) rfl) (tya_cons (is 7 (by decide) rfl) tya_nil)))) rfl (by decide))) ?_
  show TyS W [some T0, some (lstT (bsT K k 8)), none] _ _ _ _ _
  refine tys_seqE (tys_set (ty_cls (m := 8) (n := 4) (ty_var rfl) (tya_cons (is 8 (by decide) rfl) (tya_cons (is 9 (by decide) rfl) (tya_cons (is 10 (by decide) rfl) (tya_cons (is 11 (by decide) rfl) tya_nil)))) rfl (by decide))) ?_
  show TyS W [some T0, some (lstT (bsT K k 12)), none] _ _ _ _ _
  refine tys_seqE (tys_set (ty_cls (m := 12) (n := 4) (ty_var rfl) (tya_cons (is 12 (by decide) rfl) (tya_cons (is 13 (by decide) rfl) (tya_cons (is 14 (by decide) rfl) (tya_cons (is 15 (by decide) rfl) tya_nil)))) rfl (by decide))) ?_
  show TyS W [some T0, some (lstT (bsT K k 16)), none] _ _ _ _ _
  refine tys_seqE (tys_set (ty_cls (m := 16) (n := 4) (ty_var rfl) (tya_cons (is 16 (by decide) rfl) (tya_cons (is 17 (by decide) rfl) (tya_cons (is 18 (by decide) rfl) (tya_cons (is 19 (by decide) rfl) tya_nil)))) rfl (by decide))) ?_
  show TyS W [some T0, some (lstT (bsT K k 20)), none] _ _ _ _ _
  refine tys_seqE (tys_set (ty_cls (m := 20) (n := 4) (ty_var rfl) (tya_cons (is 20 (by decide) rfl) (tya_cons (is 21 (by decide) rfl) (tya_cons (is 22 (by decide) rfl) (tya_cons (is 23 (by decide) rfl) tya_nil)))) rfl (by decide))) ?_
  show TyS W [some T0, some (lstT (bsT K k 24)), none] _ _ _ _ _
  refine tys_seqE (tys_set (ty_cls (m := 24) (n := 4) (ty_var rfl) (tya_cons (is 24 (by decide) rfl) (tya_cons (is 25 (by decide) rfl) (tya_cons (is 26 (by decide) rfl) (tya_cons (is 27 (by decide) rfl) tya_nil)))) rfl (by decide))) ?_
  show TyS W [some T0, some (lstT (bsT K k 28)), none] _ _ _ _ _
  refine tys_seqE (tys_set (ty_cls (m := 28) (n := 4) (ty_var rfl) (tya_cons (is 28 (by decide) rfl) (tya_cons (is 29 (by decide) rfl) (tya_cons (is 30 (by decide) rfl) (tya_cons (is 31 (by decide) rfl) tya_nil)))) rfl (by decide))) ?_
  show TyS W [some T0, some (lstT (bsT K k 32)), none] _ _ _ _ _
  refine tys_seqE (tys_set (ty_cls (m := 32) (n := 4) (ty_var rfl) (tya_cons (is 32 (by decide) rfl) (tya_cons (is 33 (by decide) rfl) (tya_cons (is 34 (by decide) rfl) (tya_cons (is 35 (by decide) rfl) tya_nil)))) rfl (by decide))) ?_
  show TyS W [some T0, some (lstT (bsT K k 36)), none] _ _ _ _ _
  refine tys_seqE (tys_set (ty_cls (m := 36) (n := 4) (ty_var rfl) (tya_cons (is 36 (by decide) rfl) (tya_cons (is 37 (by decide) rfl) (tya_cons (is 38 (by decide) rfl) (tya_cons (is 39 (by decide) rfl) tya_nil)))) rfl (by decide))) ?_
  show TyS W [some T0, some (lstT (bsT K k 40)), none] _ _ _ _ _
  refine tys_seqE (tys_set (ty_cls (m := 40) (n := 4) (ty_var rfl) (tya_cons (is 40 (by decide) rfl) (tya_cons (is 41 (by decide) rfl) (tya_cons (is 42 (by decide) rfl) (tya_cons (is 43 (by decide) rfl) tya_nil)))) rfl (by decide))) ?_
  show TyS W [some T0, some (lstT (bsT K k 44)), none] _ _ _ _ _
  refine tys_seqE (tys_set (ty_cls (m := 44) (n := 4) (ty_var rfl) (tya_cons (is 44 (by decide) rfl) (tya_cons (is 45 (by decide) rfl) (tya_cons (is 46 (by decide) rfl) (tya_cons (is 47 (by decide) rfl) tya_nil)))) rfl (by decide))) ?_
  show TyS W [some T0, some (lstT (bsT K k 48)), none] _ _ _ _ _
  refine tys_seqE (tys_set (ty_cls (m := 48) (n := 1) (ty_var rfl) (tya_cons (is 48 (by decide) rfl) tya_nil) rfl (by decide))) ?_
  show TyS W [some T0, some (lstT (bsT K k 49)), none] _ _ _ _ _
  have hd : Ty W [some T0, some (lstT (bsT K k 49)), none] (tVar 1) (dt K (.list ((List.range 49).map fun j => .bool (decide (k = j))))) := (ty_var rfl).sub fun v H _ z => lstT_data (ds := (List.range 49).map fun j => .bool (decide (k = j))) (by rw [List.map_map]; exact z)
  have hf : ∀ k, k < 49 → (List.range 49).filter (fun j => decide (k = j)) = [k] := by decide
  refine TyS.less (Γ := [some T0, some (dt K (.list ((List.range 49).map fun j => .bool (decide (k = j))))), none]) ?_ (by exact ⟨fun _ _ _ _ h => h, fun M B v H z => lstT_data (ds := (List.range 49).map fun j => .bool (decide (k = j))) (by rw [List.map_map]; exact z), True.intro⟩)
  have hL : TyL W [some T0, some (dt K (.list ((List.range 49).map fun j => .bool (decide (k = j))))), none] (tLc (iRng1 (tCons (tCB (Ew.rLen K) (tCons (tVar 1) tNil)) tNil)) (gName 2) (tB (tOp (rIx K) (tVar 1) (tVar 2))) (tVar 2) [2]) (((List.range 49).filter fun j => decide (k = j)).map fun j => dt K (.int (j : Nat))) :=
    tyl_filter (fun j : Nat => dt K (.int (j : Nat))) (fun j : Nat => dt K (.int (j : Nat))) (fun j => decide (k = j)) (tyi_rng (n := 49) (tya_cons (ty_cb (tya_cons (ty_var rfl) tya_nil) (cbt_lenL (ds := (List.range 49).map fun j => .bool (decide (k = j))))) tya_nil) (by decide)) (by decide) (by decide) fun W' j hj => ⟨tt_B (ty_op (ty_var rfl) (ty_var rfl) (opt_ixL (atI_nat (by
      have hj' := List.mem_range.mp hj
      rw [List.getElem?_map, List.getElem?_range hj']
      rfl)))), fun _ => ty_var rfl⟩
  exact TyS.never (tys_retW (Ty.is (ty_lstG (f := fun j : Nat => .int (j : Nat)) hL) (by rw [hf k hk]; rfl)))
def sp_law_classes (T : Tx P K mg) : Sp := spT (fun x : Nat × List (Str × V) => x.1 < 49) (fun x => [eoT (T.cl x.1) x.2]) (fun x => dt K (.list [.int (x.1 : Nat)]))
theorem ok_law_classes (T : Tx P K mg) : FnOk P w K mg base (L2.CX P w) 1 T.a_law_classes T.f_law_classes ["error"] (sp_law_classes T) := by
  have nd := sc_law_classes.nd
  refine fn_ty T.F_law_classes sc_law_classes (fun x _ => rfl) fun cdv Ar outer s H E hr => ⟨_, (pss_cons (pset 1 nd (pe_lst pa_nil))
    (pss_cons (pset 1 nd (pe_op (k_add (K := K) rfl) (pv 1) (pe_lst (pa_cons (k_isX (K := K) rfl T.m_isinstance (pa_cons (pv 0) (pa_cons (pcls T.gC_0) pa_nil))) (pa_cons (k_isX (K := K) rfl T.m_isinstance (pa_cons (pv 0) (pa_cons (pcls T.gC_1) pa_nil))) (pa_cons (k_isX (K := K) rfl T.m_isinstance (pa_cons (pv 0) (pa_cons (pcls T.gC_2) pa_nil))) (pa_cons (k_isX (K := K) rfl T.m_isinstance (pa_cons (pv 0) (pa_cons (pcls T.gC_3) pa_nil))) pa_nil)))))))
    (pss_cons (pset 1 nd (pe_op (k_add (K := K) rfl) (pv 1) (pe_lst (pa_cons (k_isX (K := K) rfl T.m_isinstance (pa_cons (pv 0) (pa_cons (pcls T.gC_4) pa_nil))) (pa_cons (k_isX (K := K) rfl T.m_isinstance (pa_cons (pv 0) (pa_cons (pcls T.gC_5) pa_nil))) (pa_cons (k_isX (K := K) rfl T.m_isinstance (pa_cons (pv 0) (pa_cons (pcls T.gC_6) pa_nil))) (pa_cons (k_isX (K := K) rfl T.m_isinstance (pa_cons (pv 0) (pa_cons (pcls T.gC_7) pa_nil))) pa_nil)))))))
    (pss_cons (pset 1 nd (pe_op (k_add (K := K) rfl) (pv 1) (pe_lst (pa_cons (k_isX (K := K) rfl T.m_isinstance (pa_cons (pv 0) (pa_cons (pcls T.gC_8) pa_nil))) (pa_cons (k_isX (K := K) rfl T.m_isinstance (pa_cons (pv 0) (pa_cons (pcls T.gC_9) pa_nil))) (pa_cons (k_isX (K := K) rfl T.m_isinstance (pa_cons (pv 0) (pa_cons (pcls T.gC_10) pa_nil))) (pa_cons (k_isX (K := K) rfl T.m_isinstance (pa_cons (pv 0) (pa_cons (pcls T.gC_11) pa_nil))) pa_nil)))))))
    (pss_cons (pset 1 nd (pe_op (k_add (K := K) rfl) (pv 1) (pe_lst (pa_cons (k_isX (K := K) rfl T.m_isinstance (pa_cons (pv 0) (pa_cons (pcls T.gC_12) pa_nil))) (pa_cons (k_isX (K := K) rfl T.m_isinstance (pa_cons (pv 0) (pa_cons (pcls T.gC_13) pa_nil))) (pa_cons (k_isX (K := K) rfl T.m_isinstance (pa_cons (pv 0) (pa_cons (pcls T.gC_14) pa_nil))) (pa_cons (k_isX (K := K) rfl T.m_isinstance (pa_cons (pv 0) (pa_cons (pcls T.gC_15) pa_nil))) pa_nil)))))))
    (pss_cons (pset 1 nd (pe_op (k_add (K := K) rfl) (pv 1) (pe_lst (pa_cons (k_isX (K := K) rfl T.m_isinstance (pa_cons (pv 0) (pa_cons (pcls T.gC_16) pa_nil))) (pa_cons (k_isX (K := K) rfl T.m_isinstance (pa_cons (pv 0) (pa_cons (pcls T.gC_17) pa_nil))) (pa_cons (k_isX (K := K) rfl T.m_isinstance (pa_cons (pv 0) (pa_cons (pcls T.gC_18) pa_nil))) (pa_cons (k_isX (K := K) rfl T.m_isinstance (pa_cons (pv 0) (pa_cons (pcls T.gC_19) pa_nil))) pa_nil)))))))
    (pss_cons (pset 1 nd (pe_op (k_add (K := K) rfl) (pv 1) (pe_lst (pa_cons (k_isX (K := K) rfl T.m_isinstance (pa_cons (pv 0) (pa_cons (pcls T.gC_20) pa_nil))) (pa_cons (k_isX (K := K) rfl T.m_isinstance (pa_cons (pv 0) (pa_cons (pcls T.gC_21) pa_nil))) (pa_cons (k_isX (K := K) rfl T.m_isinstance (pa_cons (pv 0) (pa_cons (pcls T.gC_22) pa_nil))) (pa_cons (k_isX (K := K) rfl T.m_isinstance (pa_cons (pv 0) (pa_cons (pcls T.gC_23) pa_nil))) pa_nil)))))))
    (pss_cons (pset 1 nd (pe_op (k_add (K := K) rfl) (pv 1) (pe_lst (pa_cons (k_isX (K := K) rfl T.m_isinstance (pa_cons (pv 0) (pa_cons (pcls T.gC_24) pa_nil))) (pa_cons (k_isX (K := K) rfl T.m_isinstance (pa_cons (pv 0) (pa_cons (pcls T.gC_25) pa_nil))) (pa_cons (k_isX (K := K) rfl T.m_isinstance (pa_cons (pv 0) (pa_cons (pcls T.gC_26) pa_nil))) (pa_cons (k_isX (K := K) rfl T.m_isinstance (pa_cons (pv 0) (pa_cons (pcls T.gC_27) pa_nil))) pa_nil)))))))
    (pss_cons (pset 1 nd (pe_op (k_add (K := K) rfl) (pv 1) (pe_lst (pa_cons (k_isX (K := K) rfl T.m_isinstance (pa_cons (pv 0) (pa_cons (pcls T.gC_28) pa_nil))) (pa_cons (k_isX (K := K) rfl T.m_isinstance (pa_cons (pv 0) (pa_cons (pcls T.gC_29) pa_nil))) (pa_cons (k_isX (K := K) rfl T.m_isinstance (pa_cons (pv 0) (pa_cons (pcls T.gC_30) pa_nil))) (pa_cons (k_isX (K := K) rfl T.m_isinstance (pa_cons (pv 0) (pa_cons (pcls T.gC_31) pa_nil))) pa_nil)))))))
    (pss_cons (pset 1 nd (pe_op (k_add (K := K) rfl) (pv 1) (pe_lst (pa_cons (k_isX (K := K) rfl T.m_isinstance (pa_cons (pv 0) (pa_cons (pcls T.gC_32) pa_nil))) (pa_cons (k_isX (K := K) rfl T.m_isinstance (pa_cons (pv 0) (pa_cons (pcls T.gC_33) pa_nil))) (pa_cons (k_isX (K := K) rfl T.m_isinstance (pa_cons (pv 0) (pa_cons (pcls T.gC_34) pa_nil))) (pa_cons (k_isX (K := K) rfl T.m_isinstance (pa_cons (pv 0) (pa_cons (pcls T.gC_35) pa_nil))) pa_nil)))))))
    (pss_cons (pset 1 nd (pe_op (k_add (K := K) rfl) (pv 1) (pe_lst (pa_cons (k_isX (K := K) rfl T.m_isinstance (pa_cons (pv 0) (pa_cons (pcls T.gC_36) pa_nil))) (pa_cons (k_isX (K := K) rfl T.m_isinstance (pa_cons (pv 0) (pa_cons (pcls T.gC_37) pa_nil))) (pa_cons (k_isX (K := K) rfl T.m_isinstance (pa_cons (pv 0) (pa_cons (pcls T.gC_38) pa_nil))) (pa_cons (k_isX (K := K) rfl T.m_isinstance (pa_cons (pv 0) (pa_cons (pcls T.gC_39) pa_nil))) pa_nil)))))))
    (pss_cons (pset 1 nd (pe_op (k_add (K := K) rfl) (pv 1) (pe_lst (pa_cons (k_isX (K := K) rfl T.m_isinstance (pa_cons (pv 0) (pa_cons (pcls T.gC_40) pa_nil))) (pa_cons (k_isX (K := K) rfl T.m_isinstance (pa_cons (pv 0) (pa_cons (pcls T.gC_41) pa_nil))) (pa_cons (k_isX (K := K) rfl T.m_isinstance (pa_cons (pv 0) (pa_cons (pcls T.gC_42) pa_nil))) (pa_cons (k_isX (K := K) rfl T.m_isinstance (pa_cons (pv 0) (pa_cons (pcls T.gC_43) pa_nil))) pa_nil)))))))
    (pss_cons (pset 1 nd (pe_op (k_add (K := K) rfl) (pv 1) (pe_lst (pa_cons (k_isX (K := K) rfl T.m_isinstance (pa_cons (pv 0) (pa_cons (pcls T.gC_44) pa_nil))) (pa_cons (k_isX (K := K) rfl T.m_isinstance (pa_cons (pv 0) (pa_cons (pcls T.gC_45) pa_nil))) (pa_cons (k_isX (K := K) rfl T.m_isinstance (pa_cons (pv 0) (pa_cons (pcls T.gC_46) pa_nil))) (pa_cons (k_isX (K := K) rfl T.m_isinstance (pa_cons (pv 0) (pa_cons (pcls T.gC_47) pa_nil))) pa_nil)))))))
    (pss_cons (pset 1 nd (pe_op (k_add (K := K) rfl) (pv 1) (pe_lst (pa_cons (k_isX (K := K) rfl T.m_isinstance (pa_cons (pv 0) (pa_cons (pcls T.gC_48) pa_nil))) pa_nil))))
    (pss_one (ps_ret (plc [("k", 2)] nd (pi_range1 rfl T.m_range (pa_cons (k_len (K := K) rfl T.m_len (pa_cons (pv 1) pa_nil)) pa_nil)) (fun _ _ _ _ _ => (pgn 2 nd)) (fun _ _ _ _ _ => (pts_one (pt_val (pe_ix (k_ix (K := K) rfl) (pv 1) (pv 2) (fun _ _ => rfl))))) (fun _ _ _ _ _ => (pv 2)) (by kernel_rfl)))))))))))))))))), fun W x hC => ?_⟩
  obtain ⟨k, fs⟩ := x
  have hk : k < 49 := hC
  exact tys_classes hk fun j hj => cbt_isX (T.ki k hk) (.own _) (T.kt k j hk hj)
end
section
variable {P : Program} {w : World} {K : PySem.W.Frag} {mg : Str → Option Value} {base : Heap}
def spp_law_classes (T : Tx P K mg) : Addr × Obj → Sp := spP (fun k : Nat => k < 49) T.cl (fun k => dt K (.list [.int (k : Nat)]))
theorem okp_law_classes (T : Tx P K mg) : FnP P w K mg base 1 T.a_law_classes T.f_law_classes ["error"] (spp_law_classes T) := by
  have nd := sc_law_classes.nd
  refine fn_tyP T.F_law_classes sc_law_classes rfl fun cdv Ar outer s H E q hot hr => ⟨_, (pss_cons (pset 1 nd (pe_lst pa_nil))
    (pss_cons (pset 1 nd (pe_op (k_add (K := K) rfl) (pv 1) (pe_lst (pa_cons (k_isP (K := K) rfl (q := q) (List.mem_singleton.mpr rfl) (hot.2.imp fun _ z => z.1) T.m_isinstance (pa_cons (pv 0) (pa_cons (pcls T.gC_0) pa_nil))) (pa_cons (k_isP (K := K) rfl (q := q) (List.mem_singleton.mpr rfl) (hot.2.imp fun _ z => z.1) T.m_isinstance (pa_cons (pv 0) (pa_cons (pcls T.gC_1) pa_nil))) (pa_cons (k_isP (K := K) rfl (q := q) (List.mem_singleton.mpr rfl) (hot.2.imp fun _ z => z.1) T.m_isinstance (pa_cons (pv 0) (pa_cons (pcls T.gC_2) pa_nil))) (pa_cons (k_isP (K := K) rfl (q := q) (List.mem_singleton.mpr rfl) (hot.2.imp fun _ z => z.1) T.m_isinstance (pa_cons (pv 0) (pa_cons (pcls T.gC_3) pa_nil))) pa_nil)))))))
    (pss_cons (pset 1 nd (pe_op (k_add (K := K) rfl) (pv 1) (pe_lst (pa_cons (k_isP (K := K) rfl (q := q) (List.mem_singleton.mpr rfl) (hot.2.imp fun _ z => z.1) T.m_isinstance (pa_cons (pv 0) (pa_cons (pcls T.gC_4) pa_nil))) (pa_cons (k_isP (K := K) rfl (q := q) (List.mem_singleton.mpr rfl) (hot.2.imp fun _ z => z.1) T.m_isinstance (pa_cons (pv 0) (pa_cons (pcls T.gC_5) pa_nil))) (pa_cons (k_isP (K := K) rfl (q := q) (List.mem_singleton.mpr rfl) (hot.2.imp fun _ z => z.1) T.m_isinstance (pa_cons (pv 0) (pa_cons (pcls T.gC_6) pa_nil))) (pa_cons (k_isP (K := K) rfl (q := q) (List.mem_singleton.mpr rfl) (hot.2.imp fun _ z => z.1) T.m_isinstance (pa_cons (pv 0) (pa_cons (pcls T.gC_7) pa_nil))) pa_nil)))))))
    (pss_cons (pset 1 nd (pe_op (k_add (K := K) rfl) (pv 1) (pe_lst (pa_cons (k_isP (K := K) rfl (q := q) (List.mem_singleton.mpr rfl) (hot.2.imp fun _ z => z.1) T.m_isinstance (pa_cons (pv 0) (pa_cons (pcls T.gC_8) pa_nil))) (pa_cons (k_isP (K := K) rfl (q := q) (List.mem_singleton.mpr rfl) (hot.2.imp fun _ z => z.1) T.m_isinstance (pa_cons (pv 0) (pa_cons (pcls T.gC_9) pa_nil))) (pa_cons (k_isP (K := K) rfl (q := q) (List.mem_singleton.mpr rfl) (hot.2.imp fun _ z => z.1) T.m_isinstance (pa_cons (pv 0) (pa_cons (pcls T.gC_10) pa_nil))) (pa_cons (k_isP (K := K) rfl (q := q) (List.mem_singleton.mpr rfl) (hot.2.imp fun _ z => z.1) T.m_isinstance (pa_cons (pv 0) (pa_cons (pcls T.gC_11) pa_nil))) pa_nil)))))))
    (pss_cons (pset 1 nd (pe_op (k_add (K := K) rfl) (pv 1) (pe_lst (pa_cons (k_isP (K := K) rfl (q := q) (List.mem_singleton.mpr rfl) (hot.2.imp fun _ z => z.1) T.m_isinstance (pa_cons (pv 0) (pa_cons (pcls T.gC_12) pa_nil))) (pa_cons (k_isP (K := K) rfl (q := q) (List.mem_singleton.mpr rfl) (hot.2.imp fun _ z => z.1) T.m_isinstance (pa_cons (pv 0) (pa_cons (pcls T.gC_13) pa_nil))) (pa_cons (k_isP (K := K) rfl (q := q) (List.mem_singleton.mpr rfl) (hot.2.imp fun _ z => z.1) T.m_isinstance (pa_cons (pv 0) (pa_cons (pcls T.gC_14) pa_nil))) (pa_cons (k_isP (K := K) rfl (q := q) (List.mem_singleton.mpr rfl) (hot.2.imp fun _ z => z.1) T.m_isinstance (pa_cons (pv 0) (pa_cons (pcls T.gC_15) pa_nil))) pa_nil)))))))
    (pss_cons (pset 1 nd (pe_op (k_add (K := K) rfl) (pv 1) (pe_lst (pa_cons (k_isP (K := K) rfl (q := q) (List.mem_singleton.mpr rfl) (hot.2.imp fun _ z => z.1) T.m_isinstance (pa_cons (pv 0) (pa_cons (pcls T.gC_16) pa_nil))) (pa_cons (k_isP (K := K) rfl (q := q) (List.mem_singleton.mpr rfl) (hot.2.imp fun _ z => z.1) T.m_isinstance (pa_cons (pv 0) (pa_cons (pcls T.gC_17) pa_nil))) (pa_cons (k_isP (K := K) rfl (q := q) (List.mem_singleton.mpr rfl) (hot.2.imp fun _ z => z.1) T.m_isinstance (pa_cons (pv 0) (pa_cons (pcls T.gC_18) pa_nil))) (pa_cons (k_isP (K := K) rfl (q := q) (List.mem_singleton.mpr rfl) (hot.2.imp fun _ z => z.1) T.m_isinstance (pa_cons (pv 0) (pa_cons (pcls T.gC_19) pa_nil))) pa_nil)))))))
    (pss_cons (pset 1 nd (pe_op (k_add (K := K) rfl) (pv 1) (pe_lst (pa_cons (k_isP (K := K) rfl (q := q) (List.mem_singleton.mpr rfl) (hot.2.imp fun _ z => z.1) T.m_isinstance (pa_cons (pv 0) (pa_cons (pcls T.gC_20) pa_nil))) (pa_cons (k_isP (K := K) rfl (q := q) (List.mem_singleton.mpr rfl) (hot.2.imp fun _ z => z.1) T.m_isinstance (pa_cons (pv 0) (pa_cons (pcls T.gC_21) pa_nil))) (pa_cons (k_isP (K := K) rfl (q := q) (List.mem_singleton.mpr rfl) (hot.2.imp fun _ z => z.1) T.m_isinstance (pa_cons (pv 0) (pa_cons (pcls T.gC_22) pa_nil))) (pa_cons (k_isP (K := K) rfl (q := q) (List.mem_singleton.mpr rfl) (hot.2.imp fun _ z => z.1) T.m_isinstance (pa_cons (pv 0) (pa_cons (pcls T.gC_23) pa_nil))) pa_nil)))))))
    (pss_cons (pset 1 nd (pe_op (k_add (K := K) rfl) (pv 1) (pe_lst (pa_cons (k_isP (K := K) rfl (q := q) (List.mem_singleton.mpr rfl) (hot.2.imp fun _ z => z.1) T.m_isinstance (pa_cons (pv 0) (pa_cons (pcls T.gC_24) pa_nil))) (pa_cons (k_isP (K := K) rfl (q := q) (List.mem_singleton.mpr rfl) (hot.2.imp fun _ z => z.1) T.m_isinstance (pa_cons (pv 0) (pa_cons (pcls T.gC_25) pa_nil))) (pa_cons (k_isP (K := K) rfl (q := q) (List.mem_singleton.mpr rfl) (hot.2.imp fun _ z => z.1) T.m_isinstance (pa_cons (pv 0) (pa_cons (pcls T.gC_26) pa_nil))) (pa_cons (k_isP (K := K) rfl (q := q) (List.mem_singleton.mpr rfl) (hot.2.imp fun _ z => z.1) T.m_isinstance (pa_cons (pv 0) (pa_cons (pcls T.gC_27) pa_nil))) pa_nil)))))))
    (pss_cons (pset 1 nd (pe_op (k_add (K := K) rfl) (pv 1) (pe_lst (pa_cons (k_isP (K := K) rfl (q := q) (List.mem_singleton.mpr rfl) (hot.2.imp fun _ z => z.1) T.m_isinstance (pa_cons (pv 0) (pa_cons (pcls T.gC_28) pa_nil))) (pa_cons (k_isP (K := K) rfl (q := q) (List.mem_singleton.mpr rfl) (hot.2.imp fun _ z => z.1) T.m_isinstance (pa_cons (pv 0) (pa_cons (pcls T.gC_29) pa_nil))) (pa_cons (k_isP (K := K) rfl (q := q) (List.mem_singleton.mpr rfl) (hot.2.imp fun _ z => z.1) T.m_isinstance (pa_cons (pv 0) (pa_cons (pcls T.gC_30) pa_nil))) (pa_cons (k_isP (K := K) rfl (q := q) (List.mem_singleton.mpr rfl) (hot.2.imp fun _ z => z.1) T.m_isinstance (pa_cons (pv 0) (pa_cons (pcls T.gC_31) pa_nil))) pa_nil)))))))
    (pss_cons (pset 1 nd (pe_op (k_add (K := K) rfl) (pv 1) (pe_lst (pa_cons (k_isP (K := K) rfl (q := q) (List.mem_singleton.mpr rfl) (hot.2.imp fun _ z => z.1) T.m_isinstance (pa_cons (pv 0) (pa_cons (pcls T.gC_32) pa_nil))) (pa_cons (k_isP (K := K) rfl (q := q) (List.mem_singleton.mpr rfl) (hot.2.imp fun _ z => z.1) T.m_isinstance (pa_cons (pv 0) (pa_cons (pcls T.gC_33) pa_nil))) (pa_cons (k_isP (K := K) rfl (q := q) (List.mem_singleton.mpr rfl) (hot.2.imp fun _ z => z.1) T.m_isinstance (pa_cons (pv 0) (pa_cons (pcls T.gC_34) pa_nil))) (pa_cons (k_isP (K := K) rfl (q := q) (List.mem_singleton.mpr rfl) (hot.2.imp fun _ z => z.1) T.m_isinstance (pa_cons (pv 0) (pa_cons (pcls T.gC_35) pa_nil))) pa_nil)))))))
    (pss_cons (pset 1 nd (pe_op (k_add (K := K) rfl) (pv 1) (pe_lst (pa_cons (k_isP (K := K) rfl (q := q) (List.mem_singleton.mpr rfl) (hot.2.imp fun _ z => z.1) T.m_isinstance (pa_cons (pv 0) (pa_cons (pcls T.gC_36) pa_nil))) (pa_cons (k_isP (K := K) rfl (q := q) (List.mem_singleton.mpr rfl) (hot.2.imp fun _ z => z.1) T.m_isinstance (pa_cons (pv 0) (pa_cons (pcls T.gC_37) pa_nil))) (pa_cons (k_isP (K := K) rfl (q := q) (List.mem_singleton.mpr rfl) (hot.2.imp fun _ z => z.1) T.m_isinstance (pa_cons (pv 0) (pa_cons (pcls T.gC_38) pa_nil))) (pa_cons (k_isP (K := K) rfl (q := q) (List.mem_singleton.mpr rfl) (hot.2.imp fun _ z => z.1) T.m_isinstance (pa_cons (pv 0) (pa_cons (pcls T.gC_39) pa_nil))) pa_nil)))))))
    (pss_cons (pset 1 nd (pe_op (k_add (K := K) rfl) (pv 1) (pe_lst (pa_cons (k_isP (K := K) rfl (q := q) (List.mem_singleton.mpr rfl) (hot.2.imp fun _ z => z.1) T.m_isinstance (pa_cons (pv 0) (pa_cons (pcls T.gC_40) pa_nil))) (pa_cons (k_isP (K := K) rfl (q := q) (List.mem_singleton.mpr rfl) (hot.2.imp fun _ z => z.1) T.m_isinstance (pa_cons (pv 0) (pa_cons (pcls T.gC_41) pa_nil))) (pa_cons (k_isP (K := K) rfl (q := q) (List.mem_singleton.mpr rfl) (hot.2.imp fun _ z => z.1) T.m_isinstance (pa_cons (pv 0) (pa_cons (pcls T.gC_42) pa_nil))) (pa_cons (k_isP (K := K) rfl (q := q) (List.mem_singleton.mpr rfl) (hot.2.imp fun _ z => z.1) T.m_isinstance (pa_cons (pv 0) (pa_cons (pcls T.gC_43) pa_nil))) pa_nil)))))))
    (pss_cons (pset 1 nd (pe_op (k_add (K := K) rfl) (pv 1) (pe_lst (pa_cons (k_isP (K := K) rfl (q := q) (List.mem_singleton.mpr rfl) (hot.2.imp fun _ z => z.1) T.m_isinstance (pa_cons (pv 0) (pa_cons (pcls T.gC_44) pa_nil))) (pa_cons (k_isP (K := K) rfl (q := q) (List.mem_singleton.mpr rfl) (hot.2.imp fun _ z => z.1) T.m_isinstance (pa_cons (pv 0) (pa_cons (pcls T.gC_45) pa_nil))) (pa_cons (k_isP (K := K) rfl (q := q) (List.mem_singleton.mpr rfl) (hot.2.imp fun _ z => z.1) T.m_isinstance (pa_cons (pv 0) (pa_cons (pcls T.gC_46) pa_nil))) (pa_cons (k_isP (K := K) rfl (q := q) (List.mem_singleton.mpr rfl) (hot.2.imp fun _ z => z.1) T.m_isinstance (pa_cons (pv 0) (pa_cons (pcls T.gC_47) pa_nil))) pa_nil)))))))
    (pss_cons (pset 1 nd (pe_op (k_add (K := K) rfl) (pv 1) (pe_lst (pa_cons (k_isP (K := K) rfl (q := q) (List.mem_singleton.mpr rfl) (hot.2.imp fun _ z => z.1) T.m_isinstance (pa_cons (pv 0) (pa_cons (pcls T.gC_48) pa_nil))) pa_nil))))
    (pss_one (ps_ret (plcH [("k", 2)] ⟨q, hot, List.mem_singleton.mpr rfl⟩ nd (L2H.pi_range1H rfl T.m_range (pa_cons (k_len (K := K) rfl T.m_len (pa_cons (pv 1) pa_nil)) pa_nil)) (fun _ _ _ _ _ => (pgn 2 nd)) (fun _ _ _ _ _ => (pts_one (pt_val (pe_ix (k_ix (K := K) rfl) (pv 1) (pv 2) (fun _ _ => rfl))))) (fun _ _ _ _ _ => (pv 2)) (by kernel_rfl)))))))))))))))))), fun W x dd hC e1 e2 => ?_⟩
  exact tys_classes hC fun j hj => cbt_isP (T.ki x hC) e1 e2 (.own _) (T.kt x j hC hj)
end
section
variable {P : Program} {w : World} {K : PySem.W.Frag} {mg : Str → Option Value} {base : Heap}
section
variable {W : Wd} {Γ : Gam} {K : PySem.W.Frag} {k n : Nat} {tw t1 : TS} {T : Typ} {N : Sx → Hp → Prop} {Bk Ct : Sx → Hp → Prop} {te : TE} {f : Str} {u : V} {fs : List (Str × V)} {C : Addr}
/-- if k < n: return .. -/
theorem tys_lt (hi : Γ[0]? = some (some (dt K (.int (k : Nat))))) (h1 : k < n → TyS W Γ t1 noN (rW W T) Bk Ct) (h2 : ¬ k < n → TyS W Γ tw N (rW W T) Bk Ct) : TyS W Γ (tSeq (tIfS (tTest (tOp (rI0 fun i j => V.bl (decide (i < j))) (tVar 0) (tC (.int (n : Nat))))) t1 tNext) tw) N (rW W T) Bk Ct :=
  tys_guard (φ := (· = decide (k < n))) (Tt.is (tt_test (ty_op (ty_var hi) ty_int opt_lt)) (decide_eq_decide.mpr (by omega))) (fun z => h1 (of_decide_eq_true z.symm)) fun z => h2 (of_decide_eq_false z.symm)
theorem tys_eqn (hi : Γ[0]? = some (some (dt K (.int (k : Nat))))) (h1 : k = n → TyS W Γ t1 noN (rW W T) Bk Ct) (h2 : k ≠ n → TyS W Γ tw N (rW W T) Bk Ct) : TyS W Γ (tSeq (tIfS (tTest (tOp (rEqA K) (tVar 0) (tC (.int (n : Nat))))) t1 tNext) tw) N (rW W T) Bk Ct :=
  tys_guard (φ := (· = decide (k = n))) (Tt.is (tt_test (ty_op (ty_var hi) ty_int opt_eqI)) (decide_eq_decide.mpr (by omega))) (fun z => h1 (of_decide_eq_true z.symm)) fun z => h2 (of_decide_eq_false z.symm)
end
/-- what is read of an error of the class with a number -/
def rdT (k : Nat) (u : V) : List Typ := (if k < 47 then [()] else []).map fun _ => isV u
def sp_law_read (T : Tx P K mg) : Sp := spT (fun x : Nat × V => x.1 < 49) (fun x => [dt K (.int (x.1 : Nat)), eoK K T.cl x.1 x.2]) (fun x => lstT (rdT x.1 x.2))
theorem ok_law_read (T : Tx P K mg) : FnOk P w K mg base (L2.CX P w) 1 T.a_law_read T.f_law_read ["k", "error"] (sp_law_read T) := by
  have nd := sc_law_read.nd
  refine fn_ty T.F_law_read sc_law_read (fun x _ => rfl) fun cdv Ar outer s H E hr => ⟨_, (pss_cons (ps_if (pt_cmpR op_lt (pv 0) pe_int (nomark _)) (pss_one (ps_ret (pe_lst (pa_cons (k_xa (K := K) rfl (pv 1)) pa_nil)))) pss_nil)
    (pss_cons (ps_if (pt_cmpR (k_eq (K := K) rfl hr.units) (pv 0) pe_int (nomark _)) (pss_one (ps_ret (pe_lst (pa_cons (k_xa (K := K) rfl (pv 1)) pa_nil)))) pss_nil)
    (pss_cons (ps_if (pt_cmpR (k_eq (K := K) rfl hr.units) (pv 0) pe_int (nomark _)) (pss_one (ps_ret (pe_lst (pa_cons (k_xa (K := K) rfl (pv 1)) pa_nil)))) pss_nil)
    (pss_cons (ps_if (pt_cmpR op_lt (pv 0) pe_int (nomark _)) (pss_one (ps_ret (pe_lst (pa_cons (k_xa (K := K) rfl (pv 1)) pa_nil)))) pss_nil)
    (pss_cons (ps_if (pt_cmpR op_lt (pv 0) pe_int (nomark _)) (pss_one (ps_ret (pe_lst (pa_cons (k_xa (K := K) rfl (pv 1)) pa_nil)))) pss_nil)
    (pss_one (ps_ret (pe_ifExp (pt_cmpR (k_eq (K := K) rfl hr.units) (pv 0) pe_int (nomark _)) (pe_lst (pa_cons (k_xa (K := K) rfl (pv 1)) pa_nil)) (pe_lst pa_nil))))))))), fun W x hC => ?_⟩
  obtain ⟨k, u⟩ := x
  have hk : k < 49 := hC
  show TyS W [some (dt K (.int (k : Nat))), some (eoK K T.cl k u)] _ _ _ _ _
  have one : ∀ {f : Str}, k ≠ 46 → k < 47 → f ∈ fdsK k → (fsK k u).lookup f = some u → Ty W [some (dt K (.int (k : Nat))), some (eoK K T.cl k u)] (tLst (tCons (tXa K f (tVar 1)) tNil)) (lstT (rdT k u)) := fun {f} h6 h7 hm hl => by
    have hv : Ty W [some (dt K (.int (k : Nat))), some (eoK K T.cl k u)] (tVar 1) (eoT (T.cl k) (fsK k u)) := by
      have z : Ty W [some (dt K (.int (k : Nat))), some (eoK K T.cl k u)] (tVar 1) (eoK K T.cl k u) := ty_var rfl
      rw [eoK_ne h6] at z
      rw [eoK_ne h6]
      exact z
    have z := (tyl_lst (tya_cons (ty_xa hv (T.xf k hk) (T.no k hk f hm) hl) tya_nil) (by show 1 ≤ 1000000; decide)).ty
    unfold rdT
    rw [if_pos h7]
    exact z
  refine tys_lt (n := 37) rfl (fun h => tys_retW (one (by omega) (by omega) (by unfold fdsK; rw [if_pos h]; exact List.mem_singleton.mpr rfl) (by unfold fsK; rw [if_pos h]; rfl))) fun h37 => ?_
  refine tys_eqn (n := 37) rfl (fun h => by subst h; exact tys_retW (one (by decide) (by decide) (by decide) rfl)) fun n37 => ?_
  refine tys_eqn (n := 38) rfl (fun h => by subst h; exact tys_retW (one (by decide) (by decide) (by decide) rfl)) fun n38 => ?_
  refine tys_lt (n := 42) rfl (fun h => ?_) fun h42 => ?_
  · obtain rfl | rfl | rfl : k = 39 ∨ k = 40 ∨ k = 41 := by omega
    · exact tys_retW (one (by decide) (by decide) (by decide) rfl)
    · exact tys_retW (one (by decide) (by decide) (by decide) rfl)
    · exact tys_retW (one (by decide) (by decide) (by decide) rfl)
  refine tys_lt (n := 46) rfl (fun h => ?_) fun h46 => ?_
  · obtain rfl | rfl | rfl | rfl : k = 42 ∨ k = 43 ∨ k = 44 ∨ k = 45 := by omega
    · exact tys_retW (one (by decide) (by decide) (by decide) rfl)
    · exact tys_retW (one (by decide) (by decide) (by decide) rfl)
    · exact tys_retW (one (by decide) (by decide) (by decide) rfl)
    · exact tys_retW (one (by decide) (by decide) (by decide) rfl)
  refine TyS.never (tys_retW (ty_if (φ := (· = decide (k = 46))) (Tt.is (tt_test (ty_op (ty_var rfl) ty_int opt_eqI)) (decide_eq_decide.mpr (by omega))) (fun z => ?_) fun z => ?_))
  · have e := of_decide_eq_true z.symm
    subst e
    exact (tyl_lst (Ts := [isV u]) (tya_cons (fun σ H c g Q q => by
      obtain ⟨v, h1, ⟨w, t⟩, h2, h3⟩ := g.get (i := 1) (T := eoK K T.cl 46 u) rfl
      obtain ⟨a, d, rfl, h4⟩ := h2
      exact ⟨.ref a, h1, a, T.cl 46, d, _, u, rfl, h4, T.xf 46 hk, T.no 46 hk "one" (by decide), rfl, q u H (Ex.refl _ _) rfl⟩) tya_nil) (by show 1 ≤ 1000000; decide)).ty
  · have e := of_decide_eq_false z.symm
    have z := (tyl_lst (W := W) (Γ := [some (dt K (.int (k : Nat))), some (eoK K T.cl k u)]) (Ts := []) tya_nil (by decide)).ty
    unfold rdT
    rw [if_neg (by omega)]
    exact z
end
section
variable {P : Program} {w : World} {K : PySem.W.Frag} {mg : Str → Option Value} {base : Heap}
def inR (k : Nat) : Prop := k = 0 ∨ k = 37 ∨ k = 46 ∨ k = 47 ∨ k = 48
theorem inR_lt {k : Nat} (h : inR k) : k < 49 := by rcases h with rfl | rfl | rfl | rfl | rfl <;> decide
def sp_law_raise (T : Tx P K mg) : Sp := spN (fun x : Nat × V => inR x.1) (fun x => [dt K (.int (x.1 : Nat)), isV x.2]) (fun x => T.cl x.1)
theorem ok_law_raise (T : Tx P K mg) : FnOk P w K mg base (L2N.CX P w) 6 T.a_law_raise T.f_law_raise ["k", "value"] (sp_law_raise T) := by
  have nd := sc_law_raise.nd
  refine fn_tyN T.F_law_raise sc_law_raise (fun x _ => rfl) fun cdv Ar outer s H E hr => ⟨_, (pss_cons (ps_if (pt_cmpR (k_eq (K := K) rfl hr.units) (pv 0) pe_int (nomark _)) (pss_one (L2N.ps_raise rfl (L2N.takes_of rfl rfl rfl rfl) (pmk_mkR (raises_own T.sb_0 T.ty_0) (T.md_0 w) T.gC_0 T.kC_0 hr (pa_cons (pv 1) pa_nil)))) pss_nil)
    (pss_cons (ps_if (pt_cmpR (k_eq (K := K) rfl hr.units) (pv 0) pe_int (nomark _)) (pss_one (L2N.ps_raise rfl (L2N.takes_of rfl rfl rfl rfl) (pmk_mkR (raises_own T.sb_37 T.ty_37) (T.md_37 w) T.gC_37 T.kC_37 hr (pa_cons (pv 1) pa_nil)))) pss_nil)
    (pss_cons (ps_if (pt_cmpR (k_eq (K := K) rfl hr.units) (pv 0) pe_int (nomark _)) (pss_one (L2N.ps_raise rfl (L2N.takes_of rfl rfl rfl rfl) (pmk_mkR (raises_own T.sb_46 T.ty_46) (T.md_46 w) T.gC_46 T.kC_46 hr (pa_cons (pv 1) (pa_cons (pv 1) pa_nil))))) pss_nil)
    (pss_cons (ps_if (pt_cmpR (k_eq (K := K) rfl hr.units) (pv 0) pe_int (nomark _)) (pss_one (L2N.ps_raise rfl (L2N.takes_of rfl rfl rfl rfl) (pmk_mkR0 (raises_own T.sb_47 T.ty_47) (T.md_47 w) T.gC_47 T.kC_47 hr))) pss_nil)
    (pss_one (L2N.ps_raise rfl (L2N.takes_of rfl rfl rfl rfl) (pmk_mkR0 (raises_own T.sb_48 T.ty_48) (T.md_48 w) T.gC_48 T.kC_48 hr))))))), fun W x hC he => ?_⟩
  obtain ⟨k, u⟩ := x
  have hk : inR k := hC
  show TyS W [some (dt K (.int (k : Nat))), some (isV u)] _ _ _ _ _
  have eq : ∀ n : Nat, Tt W [some (dt K (.int (k : Nat))), some (isV u)] (tTest (tOp (rEqA K) (tVar 0) (tC (.int (n : Nat))))) (· = decide (k = n)) := fun n => Tt.is (tt_test (ty_op (ty_var rfl) ty_int opt_eqI)) (decide_eq_decide.mpr (by omega))
  refine tys_guard (eq 0) (fun z => ?_) fun n0 => ?_
  · have e := of_decide_eq_true z.symm
    subst e
    exact tys_mkR (tya_cons (ty_var rfl) tya_nil) rfl fun d fs σ H n h => he _ d fs σ H n h
  refine tys_guard (eq 37) (fun z => ?_) fun n1 => ?_
  · have e := of_decide_eq_true z.symm
    subst e
    exact tys_mkR (tya_cons (ty_var rfl) tya_nil) rfl fun d fs σ H n h => he _ d fs σ H n h
  refine tys_guard (eq 46) (fun z => ?_) fun n2 => ?_
  · have e := of_decide_eq_true z.symm
    subst e
    exact tys_mkR (tya_cons (ty_var rfl) (tya_cons (ty_var rfl) tya_nil)) rfl fun d fs σ H n h => he _ d fs σ H n h
  refine tys_guard (eq 47) (fun z => ?_) fun n3 => ?_
  · have e := of_decide_eq_true z.symm
    subst e
    exact tys_mkR tya_nil rfl fun d fs σ H n h => he _ d fs σ H n h
  have m0 := of_decide_eq_false n0.symm
  have m1 := of_decide_eq_false n1.symm
  have m2 := of_decide_eq_false n2.symm
  have m3 := of_decide_eq_false n3.symm
  obtain rfl : k = 48 := by rcases hk with h | h | h | h | h <;> first | exact (m0 h).elim | exact (m1 h).elim | exact (m2 h).elim | exact (m3 h).elim | exact h
  exact tys_mkR tya_nil rfl fun d fs σ H n h => he _ d fs σ H n h
end
section
variable {P : Program} {w : World} {K : PySem.W.Frag} {mg : Str → Option Value} {base : Heap}
theorem eqv_ks (k : Int) : PyData.eqv (.list [.int k]) (.list [.int k]) = true := by
  have z := eqvAll_ints [k] [k]
  rw [decide_eq_true rfl] at z
  rw [PyData.eqv]
  exact z
def sp_law_raised (K : PySem.W.Frag) : Sp := spT (fun x : Nat × V => inR x.1) (fun x => [dt K (.int (x.1 : Nat)), isV x.2]) (fun _ => dt K (.bool true))
theorem ok_law_raised (T : Tx P K mg) : FnOk P w K mg base (L2.CX P w) 7 T.a_law_raised T.f_law_raised ["k", "value"] (sp_law_raised K) := by
  have G_law_raise := ok_law_raise (w := w) (base := base) T
  have G_law_classes := ok_law_classes (w := w) (base := base) T
  have nd := sc_law_raised.nd
  have Gp_law_classes := okp_law_classes (w := w) (base := base) T
  refine fn_ty T.F_law_raised sc_law_raised (fun x _ => rfl) fun cdv Ar outer s H E hr => ⟨_, (pss_one (k_tryN (K := K) (i := 2) rfl rfl rfl nd rfl rfl ⟨rfl, by decide, .inl T.gW⟩ takesN0 (fun _ pn xe tk _ => (pss_cons (ps_expr (pe_callS G_law_raise (hr.mono (by decide)) rfl T.D_law_raise.g T.D_law_raise.k T.D_law_raise.b (fun σ => L2N.passAt tk σ) (pa_cons (pv 0) (pa_cons (pv 1) pa_nil)))) (pss_one (ps_ret pe_bl)))) (fun a oe cls d pn hz hf => (pss_one (ps_ret (pe_and (k_isPz (K := K) rfl hz hf T.m_isinstance (pa_cons (pv 2) (pa_cons (bt_VE T.m_ValueError) pa_nil))) (pe_one (pe_cmpR (k_eq (K := K) rfl hr.units) (k_callPz hz hf Gp_law_classes (hr.mono (by decide)) T.D_law_classes (pa_cons (pv 2) pa_nil)) (pe_lst (pa_cons (pv 0) pa_nil)) (nomark _))))))))), fun W x hC => ?_⟩
  obtain ⟨k, u⟩ := x
  have hk : inR k := hC
  have hl := inR_lt hk
  show TyS W [some (dt K (.int (k : Nat))), some (isV u), none] _ _ _ _ _
  refine TyS.never (tys_tryN (K := K) (Er := fun c d σ H => nE W [some (dt K (.int (k : Nat))), some (isV u), none] σ H ∧ ∃ dd fs, c = .ref (T.cl k) ∧ d = some dd ∧ H dd = some (.xd fs)) (fun Wx hW => ?_) fun cls d σ H e => ?_)
  · exact tys_seq (N := noN) (tys_callN (k, u) hk (tya_cons (ty_var rfl) (tya_cons (ty_var rfl) tya_nil)) fun d fs σ H n h => hW _ _ _ _ ⟨n, d, fs, rfl, rfl, h⟩) fun σ H z => z.elim
  · obtain ⟨n, dd, fs, rfl, rfl, h⟩ := e
    refine ⟨n, T.cl k, dd, fs, rfl, rfl, h, T.ew k hl, fun a => ?_⟩
    show TyS W [some (dt K (.int (k : Nat))), some (isV u), some (peT a dd)] _ _ _ _ _
    refine tys_retW (Ty.is (ty_andV (a := true) (b := true) (ty_cb (tya_cons (ty_var rfl) (tya_cons ty_c tya_nil)) (cbt_isP (T.ki k hl) rfl rfl (.ty _) (T.kV k hl))) fun _ => ?_) rfl)
    exact Ty.is (ty_op (ty_callP k hl (tya_cons (ty_var rfl) tya_nil)) (ty_lstD (ds := [.int (k : Nat)]) (tya_cons (ty_var rfl) tya_nil) (by show 1 ≤ 1000000; decide)) (opt_eqD (d := .list [.int (k : Nat)]) rfl rfl)) (by rw [eqv_ks])
end
section
variable {P : Program} {w : World} {K : PySem.W.Frag} {mg : Str → Option Value} {base : Heap}
/-! ### what is put behind a value -/
/-- a list or dict that was not there at the entry is changed -/
structure Gw (W : Wd) (p : Addr) (H H' : Hp) : Prop where
  h0 : W.H0 p = none
  nb : ¬ W.B p
  was : ∃ o, H p = some o ∧ ((∃ xs, o = .lst xs) ∨ ∃ kvs, o = .dK kvs)
  ex : ∃ o, H' = upd H p o
section
variable {W : Wd} {Γ : Gam} {K : PySem.W.Frag} {p : Addr} {H H' : Hp} {u : V} {a : Any} {cl : Nat → Addr} {k : Nat} {ts tw : TS} {N : Sx → Hp → Prop} {R : V → Hp → Prop} {Bk Ct : Sx → Hp → Prop}
theorem Gw.keep {b : Addr} {o : HO} (g : Gw W p H H') (h : H b = some o) (n1 : ∀ xs, o ≠ .lst xs) (n2 : ∀ kvs, o ≠ .dK kvs) : H' b = some o := by
  obtain ⟨o', rfl⟩ := g.ex
  obtain ⟨q, hq, hk⟩ := g.was
  have ne : b ≠ p := fun z => by
    rw [z, hq] at h
    cases h
    rcases hk with ⟨xs, e⟩ | ⟨kvs, e⟩
    · exact n1 _ e
    · exact n2 _ e
  rw [upd_ne ne]
  exact h
theorem Gw.box {b : Addr} (g : Gw W p H H') (hb : W.B b) (h : BoxAt H b) : BoxAt H' b := by
  obtain ⟨o', rfl⟩ := g.ex
  obtain ⟨xs, h1, h2⟩ := h
  exact ⟨xs, by rw [upd_ne (fun z => g.nb (by rw [← z]; exact hb))]; exact h1, h2⟩
theorem Gw.er {C d e : Addr} {fs : List (Str × V)} (g : Gw W p H H') (h : ErAt H e C d fs) : ErAt H' e C d fs := ⟨let ⟨φ, h1, h2⟩ := h.1; ⟨φ, g.keep h1 (fun _ z => nomatch z) (fun _ z => nomatch z), h2⟩, g.keep h.2 (fun _ z => nomatch z) fun _ z => nomatch z⟩
theorem Gw.sqT {b : Addr} {xs : List V} (g : Gw W p H H') (h : SqT K H b xs) : SqT K H' b xs := by
  rcases h with (h | ⟨o, h⟩) | h
  · exact .inl (.inl (g.keep h (fun _ z => nomatch z) fun _ z => nomatch z))
  · exact .inl (.inr ⟨o, g.keep h (fun _ z => nomatch z) fun _ z => nomatch z⟩)
  · exact .inr h
theorem Gw.eo {v : V} (g : Gw W p H H') (h : (eoK K cl k u).p W.M W.B v H) : (eoK K cl k u).p W.M W.B v H' := by
  unfold eoK at *
  split at h
  · rename_i e
    rw [if_pos e]
    obtain ⟨⟨w, t⟩, ⟨x, d, h1, h2⟩, b, xs, h3, h4, h5⟩ := h
    exact ⟨(w, t), ⟨x, d, h1, g.er h2⟩, b, xs, h3, g.sqT h4, by
      match xs, h5 with
      | [y], h5 => exact ⟨h5.1, True.intro⟩⟩
  · rename_i e
    rw [if_neg e]
    obtain ⟨x, d, h1, h2⟩ := h
    exact ⟨x, d, h1, g.er h2⟩
theorem Gw.cxt (g : Gw W p H H') (c : Cxt W H) : Cxt ⟨W.M, W.B, W.H0, fun _ => True, W.sub, fun _ _ => trivial⟩ H' := by
  refine ⟨fun a h => g.box h (c.box a h), fun a h => ?_, ?_, trivial⟩
  · obtain ⟨o', rfl⟩ := g.ex
    by_cases q : a = p
    · rw [q, upd_same]; intro z; cases z
    · rw [upd_ne q]; exact c.al a h
  · obtain ⟨o', rfl⟩ := g.ex
    exact c.ex.mut g.h0
/-- how it grows -/
theorem grow_ok (hok : a.ok) (c : Cxt W H) (hr : Rp W.M K H u a.d) (hf : a.fr K W.M W.H0 H u) {q : Hp → Prop} (q0 : (H' : Hp) → H' = H → Rp W.M K H' u a.g → q H') (q1 : ∀ p H', Gw W p H H' → Rp W.M K H' u a.g → q H') : GrS 6 u H q := by
  have nb : ∀ {p : Addr} {o : HO}, W.H0 p = none → H p = some o → (∀ xs, o = .lst xs → ¬ W.M p) → ¬ W.B p := fun {p o} h1 h2 h3 hb => by
    obtain ⟨xs, h4, _⟩ := c.box p hb
    rw [h2] at h4
    cases h4
    exact h3 xs rfl (W.sub p hb)
  cases a with
  | flat d =>
    have hd : flatD d := hok
    refine .inl ⟨?_, q0 H rfl hr⟩
    have hr : Rp W.M K H u d := hr
    cases hr with
    | non => exact .inl rfl
    | bl b => exact .inr (.inl ⟨b, rfl⟩)
    | int i => exact .inr (.inr (.inl ⟨i, rfl⟩))
    | str x => exact .inr (.inr (.inr ⟨x, rfl⟩))
    | lst _ _ _ => exact hd.elim
    | tup _ _ => exact hd.elim
    | dic _ _ => exact hd.elim
  | lst i =>
    obtain ⟨p, rfl, h0⟩ := hf
    have hr : Rp W.M K H (.ref p) (.list [.int i]) := hr
    cases hr with
    | @lst _ xs _ h1 nm h2 =>
      cases h2 with
      | cons h3 h4 =>
        cases h3
        cases h4
        refine .inr (.inl ⟨p, _, rfl, h1, by show 1 < 1000; decide, q1 p _ ⟨h0, nb h0 h1 fun _ _ => nm, ⟨_, h1, .inl ⟨_, rfl⟩⟩, _, rfl⟩ (.lst upd_same nm (.cons (.int i) (.cons (.str _) .nil)))⟩)
  | tup =>
    obtain ⟨t, p, rfl, ht, h0, h5⟩ := hf
    cases h5 with
    | @lst _ ys _ k1 nm k2 =>
      cases k2 with
      | cons k3 k4 =>
        cases k3
        cases k4
        have G : Gw W p H (upd H p (.lst ([V.int 2] ++ [.str "more"]))) := ⟨h0, nb h0 k1 fun _ _ => nm, ⟨_, k1, .inl ⟨_, rfl⟩⟩, _, rfl⟩
        exact .inr (.inr (.inr ⟨t, 1, p, _, rfl, ht, k1, by show 1 < 1000; decide, by decide, q1 p _ G (.tup (G.sqT (SqT.of ht)) (.cons (.int 1) (.cons (.lst upd_same nm (.cons (.int 2) (.cons (.str _) .nil))) .nil)))⟩))
  | dic =>
    obtain ⟨p, rfl, h0⟩ := hf
    have hr : Rp W.M K H (.ref p) (.dict [(.str "a", .list [.int 3])]) := hr
    generalize hD : PyData.dict [(.str "a", .list [.int 3])] = D at hr
    cases hr with
    | lst _ _ _ => cases hD
    | tup _ _ => cases hD
    | @dic _ kvs ds h1 h2 =>
      cases hD
      generalize hl : [(PyData.str "a", PyData.list [.int 3])] = L at h2
      cases h2 with
      | nil => cases hl
      | @cons key v vs d dd h3 h4 =>
        injection hl with e1 e2
        subst e2
        cases h4
        injection e1 with e3 e4
        subst e4
        obtain rfl : key = .inr "a" := by
          cases key with
          | inl z => cases e3
          | inr z => cases e3; rfl
        cases h3 with
        | @lst b ys _ k1 nm k2 =>
          have bp : b ≠ p := fun z => by rw [z, h1] at k1; cases k1
          have k1' : upd H p (.dK (putK [((Sum.inr "a" : Key), V.ref b)] (.inr "more") (.int 1))) b = some (.lst ys) := by rw [upd_ne bp]; exact k1
          have k2' : RpA W.M K (upd H p (.dK (putK [((Sum.inr "a" : Key), V.ref b)] (.inr "more") (.int 1)))) ys [.int 3] := by
            cases k2 with
            | cons k3 k4 =>
              cases k3
              cases k4
              exact .cons (.int 3) .nil
          refine .inr (.inr (.inl ⟨p, _, rfl, h1, by show 1 < 1000; decide, q1 p _ ⟨h0, nb h0 h1 fun _ z => (nomatch z), ⟨_, h1, .inr ⟨_, rfl⟩⟩, _, rfl⟩ ?_⟩))
          have sm : upd H p (.dK (putK [((Sum.inr "a" : Key), V.ref b)] (.inr "more") (.int 1))) p = some (.dK [(.inr "a", .ref b), (.inr "more", .int 1)]) := upd_same
          exact .dic sm (.cons (.lst k1' nm k2') (.cons (.int 1) .nil))
end
theorem Any.st {a : Any} (h : a.ok) : stOk 6 a.d ∧ stOk 6 a.g := by
  cases a with
  | flat d =>
    have hd : flatD d := h
    cases d <;> first | exact ⟨trivial, trivial⟩ | exact ⟨hd, hd⟩ | exact hd.elim
  | lst i => exact ⟨by simp [Any.d, stOk], by simp [Any.g, stOk]; decide⟩
  | tup => exact ⟨by simp [Any.d, stOk], by simp [Any.g, stOk]; decide⟩
  | dic =>
    refine ⟨⟨[("a", .list [.int 3])], rfl, by simp, by decide, fun p hp => ?_⟩, [("a", .list [.int 3]), ("more", .int 1)], rfl, by simp; decide, by decide, fun p hp => ?_⟩
    · rw [List.mem_singleton.mp hp]
      exact ⟨trivial, by simp [stOk]⟩
    · rcases List.mem_cons.mp hp with rfl | hp
      · exact ⟨trivial, by simp [stOk]⟩
      · rw [List.mem_singleton.mp hp]
        exact ⟨trivial, trivial⟩
section
variable {W : Wd} {Γ : Gam} {K : PySem.W.Frag} {u : V} {a : Any} {cl : Nat → Addr} {k : Nat} {ts : TS} {N : Sx → Hp → Prop} {R : V → Hp → Prop} {Bk Ct : Sx → Hp → Prop} {i : Nat} {T : Typ} {α : Type} {A : α → Typ}
/-- something more is known of a slot -/
theorem TyS.more (hi : Γ[i]? = some (some T)) (k : ∀ M B v H, T.p M B v H → ∃ x, (A x).p M B v H) (h : ∀ x, TyS W (Γ.set i (some (anT T (A x)))) ts N R Bk Ct) : TyS W Γ ts N R Bk Ct := fun σ H c g => by
  obtain ⟨v, h1, h2⟩ := g.get hi
  obtain ⟨x, hx⟩ := k _ _ _ _ h2
  have e : σ.set i (some v) = σ := by
    apply List.ext_getElem?
    intro j
    by_cases hj : i = j
    · subst hj
      rw [List.getElem?_set_self (List.getElem?_eq_some_iff.mp h1).1, h1]
    · rw [List.getElem?_set_ne hj]
  have g' : EnvW W (Γ.set i (some (anT T (A x)))) σ H := by
    have z := EnvL.set (T := anT T (A x)) (i := i) (v := v) ⟨h2, hx⟩ g
    rw [e] at z
    exact z
  exact h x σ H c g'
theorem eoK_any {M B : Addr → Prop} {v : V} {H : Hp} (h : (eoK K cl k u).p M B v H) : ∃ fs, (eoT (cl k) fs).p M B v H := by
  unfold eoK at h
  split at h
  · rename_i e
    obtain ⟨x, h1, _⟩ := h
    rw [e]
    exact ⟨_, h1⟩
  · exact ⟨_, h⟩
theorem inV_ints (k : Int) : ∀ ns : List Int, inV (.int k) (ns.map V.int) = decide (k ∈ ns)
  | [] => by simp [inV]
  | n :: ns => by
    have z := inV_ints k ns
    unfold inV at *
    rw [List.map_cons, List.any_cons, z]
    show (n == k || decide (k ∈ ns)) = _
    by_cases h : n = k
    · subst h; simp
    · have h2 : ¬ k = n := fun e => h e.symm
      have h3 : (n == k) = false := by simpa using h
      rw [h3, Bool.false_or]
      exact decide_eq_decide.mpr (by simp [h2])
theorem ints_of_rp {M : Addr → Prop} {H : Hp} : ∀ {ns : List Int} {xs : List V}, RpA M K H xs (ns.map .int) → xs = ns.map V.int
  | [], _, h => by cases h; rfl
  | n :: ns, _, h => by
    cases h with
    | cons h1 h2 =>
      cases h1
      rw [ints_of_rp h2]; rfl
theorem ty_varS {U : Typ} (hi : Γ[i]? = some (some T)) (k : ∀ M B v H, T.p M B v H → U.p M B v H) : Ty W Γ (tVar i) U := (ty_var hi).sub fun v H _ z => k _ _ _ _ z
theorem opt_notin {ns : List Int} {k : Int} : OpT W (rIn K true) (dt K (.int k)) (dt K (.list (ns.map .int))) (dt K (.bool (!decide (k ∈ ns)))) := fun x y H c hx hy Q q => by
  cases hx
  cases hy with
  | @lst p xs _ h1 h0 h2 =>
    obtain rfl := ints_of_rp h2
    refine ⟨p, _, rfl, .inl (SqL.of h1), rfl, List.all_eq_true.mpr fun v hv => ?_, ?_⟩
    · obtain ⟨n, _, rfl⟩ := List.mem_map.mp hv
      rfl
    · rw [if_pos rfl, inV_ints]
      exact q _ H (Ex.refl _ _) (.bl _)
end
theorem env5 {M B : Addr → Prop} {A0 A1 A2 A3 A4 : Typ} {σ : Sx} {H : Hp} (g : EnvL M B [some A0, some A1, some A2, some A3, some A4, none] σ H) : ∃ x0 x1 x2 x3 x4 s5, σ = [some x0, some x1, some x2, some x3, some x4, s5] ∧ A0.p M B x0 H ∧ A1.p M B x1 H ∧ A2.p M B x2 H ∧ A3.p M B x3 H ∧ A4.p M B x4 H := by
  match σ, g with
  | [some x0, some x1, some x2, some x3, some x4, x5], g => exact ⟨x0, x1, x2, x3, x4, x5, rfl, g.1, g.2.1, g.2.2.1, g.2.2.2.1, g.2.2.2.2.1⟩
def sp_law_class_right (K : PySem.W.Frag) : Sp := spT (fun x : Nat × Bool => x.1 < 49) (fun x => [bx, dt K (.int (x.1 : Nat)), dt K (.bool x.2)]) (fun _ => dt K (.bool true))
theorem ok_law_class_right (T : Tx P K mg) : FnOk P w K mg base (L2.CX P w) 15 T.a_law_class_right T.f_law_class_right ["box", "k", "by_name"] (sp_law_class_right K) := by
  have G_law_anything := ok_law_anything (w := w) (base := base) T
  have G_law_made_0 := ok_law_made_0 (w := w) (base := base) T
  have G_law_grown := ok_law_grown (w := w) (base := base) T
  have G_law_raised := ok_law_raised (w := w) (base := base) T
  have G_law_classes := ok_law_classes (w := w) (base := base) T
  have G_law_still := ok_law_still (w := w) (base := base) T
  have G_law_read := ok_law_read (w := w) (base := base) T
  have nd := sc_law_class_right.nd
  refine fn_ty T.F_law_class_right sc_law_class_right (fun x _ => rfl) fun cdv Ar outer s H E hr => ⟨_, (pss_cons (pset 3 nd (pcall G_law_anything (hr.mono (by decide)) T.D_law_anything (pa_cons (pv 0) pa_nil)))
    (pss_cons (pset 4 nd (pcall G_law_made_0 (hr.mono (by decide)) T.D_law_made_0 (pa_cons (pv 1) (pa_cons (pv 3) (pa_cons (pv 2) pa_nil)))))
    (pss_cons (ps_if (PW.pt (pw_or (pt_not (pt_val (k_isX (K := K) rfl T.m_isinstance (pa_cons (pv 4) (pa_cons (pcls T.gW) pa_nil))))) (pw_or (pt_not (pt_val (k_isX (K := K) rfl T.m_isinstance (pa_cons (pv 4) (pa_cons (bt_VE T.m_ValueError) pa_nil))))) (pw_or1 (pt_cmpR (k_ne (K := K) rfl hr.units) (pcall G_law_classes (hr.mono (by decide)) T.D_law_classes (pa_cons (pv 4) pa_nil)) (pe_lst (pa_cons (pv 1) pa_nil)) (nomark _)))))) (pss_one (ps_ret pe_bl)) pss_nil)
    (pss_cons (ps_if (pt_cmpR (k_ne (K := K) rfl hr.units) (plc [("item", 5)] nd (k_ilist (K := K) rfl (pcall G_law_read (hr.mono (by decide)) T.D_law_read (pa_cons (pv 1) (pa_cons (pv 4) pa_nil)))) (fun _ _ _ _ _ => (pgn 5 nd)) (fun _ _ _ _ _ => (pts_one (pt_not (pt_val (pcall G_law_still (hr.mono (by decide)) T.D_law_still (pa_cons (pv 5) (pa_cons (pv 3) pa_nil))))))) (fun _ _ _ _ _ => pe_int) (by kernel_rfl)) (pe_lst pa_nil) (nomark _)) (pss_one (ps_ret pe_bl)) pss_nil)
    (pss_cons (ps_if (PW.pt (pw_and (pt_cmpR (k_eq (K := K) rfl hr.units) (pv 1) pe_int (nomark _)) (pw_and1 (pt_not (pt_val (pcall G_law_still (hr.mono (by decide)) T.D_law_still (pa_cons (k_xa (K := K) rfl (pv 4)) (pa_cons (pe_tup (pa_cons (pv 3) pa_nil)) pa_nil)))))))) (pss_one (ps_ret pe_bl)) pss_nil)
    (pss_cons (ps_expr (pcall G_law_grown (hr.mono (by decide)) T.D_law_grown (pa_cons (pv 3) pa_nil)))
    (pss_cons (ps_if (pt_cmpR (k_ne (K := K) rfl hr.units) (plc [("item", 5)] nd (k_ilist (K := K) rfl (pcall G_law_read (hr.mono (by decide)) T.D_law_read (pa_cons (pv 1) (pa_cons (pv 4) pa_nil)))) (fun _ _ _ _ _ => (pgn 5 nd)) (fun _ _ _ _ _ => (pts_one (pt_not (pt_val (pcall G_law_still (hr.mono (by decide)) T.D_law_still (pa_cons (pv 5) (pa_cons (pv 3) pa_nil))))))) (fun _ _ _ _ _ => pe_int) (by kernel_rfl)) (pe_lst pa_nil) (nomark _)) (pss_one (ps_ret pe_bl)) pss_nil)
    (pss_one (ps_ret (pe_or (pe_cmpR (k_notin (K := K) rfl) (pv 1) (pe_lst (pa_cons pe_int (pa_cons pe_int (pa_cons pe_int (pa_cons pe_int (pa_cons pe_int pa_nil)))))) rfl) (pe_one (pcall G_law_raised (hr.mono (by decide)) T.D_law_raised (pa_cons (pv 1) (pa_cons (pv 3) pa_nil)))))))))))))), fun W x hC => ?_⟩
  obtain ⟨k, nm⟩ := x
  have hk : k < 49 := hC
  show TyS W [some bx, some (dt K (.int (k : Nat))), some (dt K (.bool nm)), none, none, none] _ _ _ _ _
  refine tys_seqE (tys_set (T := anyG K W.H0) (TyR.ty (tyr_callR () trivial (tya_cons (ty_var rfl) tya_nil)) fun H0 v H c e z => ?_)) ?_
  · obtain ⟨a, h1, h2, h3⟩ := z
    exact ⟨a, h1, h2, Any.fr_back c.ex h3⟩
  refine TyS.openX (n := 3) rfl fun a => TyS.openG (n := 3) rfl fun hok => ?_
  refine TyS.openV (i := 3) rfl fun u => ?_
  show TyS W [some bx, some (dt K (.int (k : Nat))), some (dt K (.bool nm)), some (anT (isV u) (anT0 K W.H0 a)), none, none] _ _ _ _ _
  obtain ⟨st1, st2⟩ := Any.st hok
  refine tys_seqE (tys_set (T := eoK K T.cl k u) (ty_call (k, u, nm) hk (tya_cons (ty_var rfl) (tya_cons (ty_varS rfl fun _ _ _ _ z => z.1) (tya_cons (ty_var rfl) tya_nil))))) ?_
  refine TyS.more (i := 4) (A := eoT (T.cl k)) rfl (fun M B v H z => eoK_any z) fun fs => ?_
  show TyS W [some bx, some (dt K (.int (k : Nat))), some (dt K (.bool nm)), some (anT (isV u) (anT0 K W.H0 a)), some (anT (eoK K T.cl k u) (eoT (T.cl k) fs)), none] _ _ _ _ _
  have er : Ty W [some bx, some (dt K (.int (k : Nat))), some (dt K (.bool nm)), some (anT (isV u) (anT0 K W.H0 a)), some (anT (eoK K T.cl k u) (eoT (T.cl k) fs)), none] (tVar 4) (eoT (T.cl k) fs) := ty_varS rfl fun _ _ _ _ z => z.2
  refine tys_guard (φ := (· = false)) (tt_orB (a := false) (Tt.is (tt_notB (tt_B (ty_cb (tya_cons er (tya_cons ty_c tya_nil)) (cbt_isX (T.ki k hk) (.own _) (T.kW k hk))))) rfl) fun _ => tt_orB (a := false) (Tt.is (tt_notB (tt_B (ty_cb (tya_cons er (tya_cons ty_c tya_nil)) (cbt_isX (T.ki k hk) (.ty _) (T.kV k hk))))) rfl) fun _ => Tt.is (tt_test (ty_op (ty_call (k, fs) hk (tya_cons er tya_nil)) (ty_lstD (ds := [.int (k : Nat)]) (tya_cons (ty_var rfl) tya_nil) (by show 1 ≤ 1000000; decide)) (opt_neD (d := .list [.int (k : Nat)]) rfl rfl))) (by rw [eqv_ks]; rfl)) (fun z => Bool.noConfusion z) fun _ => ?_
  have comp : ∀ (W : Wd) (T3 : Typ) (d : PyData) (T4 : Typ), stOk 6 d → (∀ M B v H, T3.p M B v H → Rp M K H v d) → (∀ M B v H, T4.p M B v H → (eoK K T.cl k u).p M B v H) → Tt W [some bx, some (dt K (.int (k : Nat))), some (dt K (.bool nm)), some (anT (isV u) T3), some T4, none] (tTest (tOp (rNeA K) (tLc (iList K (tCall (sp_law_read T) [] E0 (tCons (tVar 1) (tCons (tVar 4) tNil)))) (gName 5) (tNot (tB (tCall (sp_law_still K) [] E0 (tCons (tVar 5) (tCons (tVar 3) tNil))))) (tC (V.int 1)) [5]) (tLst tNil))) (· = false) := fun W T3 d T4 hst h3 h4 => by
    have hi : TyI W [some bx, some (dt K (.int (k : Nat))), some (dt K (.bool nm)), some (anT (isV u) T3), some T4, none] (iList K (tCall (sp_law_read T) [] E0 (tCons (tVar 1) (tCons (tVar 4) tNil)))) ((if k < 47 then [()] else []).map fun _ => isV u) := tyi_lst (ty_call (k, u) hk (tya_cons (ty_var rfl) (tya_cons (ty_varS rfl fun _ _ _ _ z => h4 _ _ _ _ z) tya_nil)))
    have hL : TyL W [some bx, some (dt K (.int (k : Nat))), some (dt K (.bool nm)), some (anT (isV u) T3), some T4, none] (tLc (iList K (tCall (sp_law_read T) [] E0 (tCons (tVar 1) (tCons (tVar 4) tNil)))) (gName 5) (tNot (tB (tCall (sp_law_still K) [] E0 (tCons (tVar 5) (tCons (tVar 3) tNil))))) (tC (V.int 1)) [5]) ((((if k < 47 then [()] else []) : List Unit).filter fun _ => false).map fun _ => dt K (.int 1)) :=
      tyl_filter (fun _ : Unit => isV u) (fun _ : Unit => dt K (.int 1)) (fun _ => false) hi (by split <;> decide) (by decide) fun W' x hx => ⟨Tt.is (tt_notB (tt_B (ty_call d hst (tya_cons ((ty_same (i := 5) (j := 3) (u := u) (T := T3) rfl rfl).sub fun v H _ z => h3 _ _ _ _ z) (tya_cons (ty_varS rfl fun _ _ _ _ z => h3 _ _ _ _ z.2) tya_nil))))) rfl, fun z => Bool.noConfusion z⟩
    exact Tt.is (tt_test (ty_op (Ty.is (ty_lstG (f := fun _ : Unit => .int 1) hL) (show _ = PyData.list [] by split <;> rfl)) (ty_lstD (ds := []) tya_nil (by show 0 ≤ 1000000; decide)) (opt_neD (d := .list []) rfl rfl))) rfl
  refine tys_guard (φ := (· = false)) (comp W (anT0 K W.H0 a) a.d _ st1 (fun M B v H z => z.1) fun M B v H z => z.1) (fun z => Bool.noConfusion z) fun _ => ?_
  have oth : Tt W [some bx, some (dt K (.int (k : Nat))), some (dt K (.bool nm)), some (anT (isV u) (anT0 K W.H0 a)), some (anT (eoK K T.cl k u) (eoT (T.cl k) fs)), none] (tAnd (tTest (tOp (rEqA K) (tVar 1) (tC (V.int 46)))) (tNot (tB (tCall (sp_law_still K) [] E0 (tCons (tXa K "other" (tVar 4)) (tCons (tTup (tCons (tVar 3) tNil)) tNil)))))) (· = false) := by
    have t1 : Tt W [some bx, some (dt K (.int (k : Nat))), some (dt K (.bool nm)), some (anT (isV u) (anT0 K W.H0 a)), some (anT (eoK K T.cl k u) (eoT (T.cl k) fs)), none] (tTest (tOp (rEqA K) (tVar 1) (tC (V.int 46)))) (· = decide (k = 46)) := Tt.is (tt_test (ty_op (ty_var rfl) ty_int opt_eqI)) (decide_eq_decide.mpr (by omega))
    by_cases h46 : k = 46
    · subst h46
      refine Tt.is (tt_andB (a := true) (b := false) t1 fun _ => Tt.is (tt_notB (tt_B (ty_call (PyData.tuple [a.d]) ?_ (tya_cons (fun σ H c g Q q => ?_) (tya_cons (ty_tupD (ds := [a.d]) (tya_cons (ty_varS rfl fun _ _ _ _ z => z.2.1) tya_nil) (by show 1 ≤ 1000000; decide)) tya_nil))))) rfl) rfl
      · cases a with
        | flat d =>
          have hd : flatD d := hok
          refine ⟨by show 1 ≤ 1000; decide, fun e he => ?_⟩
          obtain rfl : e = d := by simpa [Any.d] using he
          cases e <;> first | trivial | exact hd | exact hd.elim
        | lst i => simp [Any.d, stOk]
        | tup => simp [Any.d, stOk]
        | dic =>
          refine ⟨by show 1 ≤ 1000; decide, fun e he => ?_⟩
          obtain rfl : e = .dict [(.str "a", .list [.int 3])] := by simpa [Any.d] using he
          exact ⟨[("a", .list [.int 3])], rfl, by simp, by decide, fun p hp => by rw [List.mem_singleton.mp hp]; exact ⟨trivial, by simp [stOk]⟩⟩
      · obtain ⟨v, h1, ⟨⟨w, t⟩, ⟨x, d, rfl, h2⟩, b, xs, rfl, h3, h4⟩, _⟩ := g.get (i := 4) (T := anT (eoK K T.cl 46 u) (eoT (T.cl 46) fs)) rfl
        obtain ⟨y, _, rfl, hr, _⟩ := g.get (i := 3) (T := anT (isV u) (anT0 K W.H0 a)) rfl
        obtain rfl := tys_v1 h4
        exact ⟨.ref x, h1, x, T.cl 46, d, _, .ref b, rfl, h2, T.xf 46 hk, T.no 46 hk "other" (by decide), rfl, q _ H (Ex.refl _ _) (.tup h3 (.cons hr .nil))⟩
    · exact tt_andF (Tt.is t1 (decide_eq_false h46))
  refine tys_guard (φ := (· = false)) oth (fun z => Bool.noConfusion z) fun _ => ?_
  have tail : ∀ W' : Wd, TyS W' [some bx, some (dt K (.int (k : Nat))), some (dt K (.bool nm)), some (anT (isV u) (dt K a.g)), some (eoK K T.cl k u), none] (tSeq (tIfS (tTest (tOp (rNeA K) (tLc (iList K (tCall (sp_law_read T) [] E0 (tCons (tVar 1) (tCons (tVar 4) tNil)))) (gName 5) (tNot (tB (tCall (sp_law_still K) [] E0 (tCons (tVar 5) (tCons (tVar 3) tNil))))) (tC (V.int 1)) [5]) (tLst tNil))) (tRet (tC (V.bl false))) tNext) (tRet (tOrV (tOp (rIn K true) (tVar 1) (tLst (tCons (tC (V.int 0)) (tCons (tC (V.int 37)) (tCons (tC (V.int 46)) (tCons (tC (V.int 47)) (tCons (tC (V.int 48)) tNil))))))) (tCall (sp_law_raised K) [] E0 (tCons (tVar 1) (tCons (tVar 3) tNil)))))) noN (rW W' (dt K (.bool true))) noN noN := fun W' => by
    refine tys_guard (φ := (· = false)) (comp W' (dt K a.g) a.g _ st2 (fun M B v H z => z) fun M B v H z => z) (fun z => Bool.noConfusion z) fun _ => ?_
    refine tys_retW (Ty.is (ty_orV (a := !decide ((k : Int) ∈ ([0, 37, 46, 47, 48] : List Int))) (b := true) (ty_op (ty_var rfl) (ty_lstD (ds := ([0, 37, 46, 47, 48] : List Int).map .int) (tya_cons ty_int (tya_cons ty_int (tya_cons ty_int (tya_cons ty_int (tya_cons ty_int tya_nil))))) (by decide)) opt_notin) fun h => ?_) (by rw [Bool.or_true]))
    have hm : (k : Int) ∈ ([0, 37, 46, 47, 48] : List Int) := by
      by_cases q : (k : Int) ∈ ([0, 37, 46, 47, 48] : List Int)
      · exact q
      · rw [decide_eq_false q] at h; cases h
    have hin : inR k := by
      simp only [List.mem_cons, List.not_mem_nil, or_false] at hm
      unfold inR
      omega
    exact ty_call (k, u) hin (tya_cons (ty_var rfl) (tya_cons (ty_varS rfl fun _ _ _ _ z => z.1) tya_nil))
  refine TyS.never fun σ H c g D dn dr db dc => ?_
  obtain ⟨v3, s3, e3, hr, hf⟩ := g.get (i := 3) (T := anT (isV u) (anT0 K W.H0 a)) rfl
  have e3 : v3 = u := e3
  rw [e3] at s3 hr hf
  refine ⟨_, s3, _, rfl, grow_ok hok c hr hf (fun H' e hr' => ?_) fun p H' G hr' => ?_⟩
  · subst e
    have g2 : EnvW W [some bx, some (dt K (.int (k : Nat))), some (dt K (.bool nm)), some (anT (isV u) (dt K a.g)), some (eoK K T.cl k u), none] σ H' := by
      obtain ⟨x0, x1, x2, x3, x4, s5, e, y0, y1, y2, y3, y4⟩ := env5 g
      rw [e]
      have z3 : (anT (isV u) (dt K a.g)).p W.M W.B x3 H' := ⟨y3.1, by rw [show x3 = u from y3.1]; exact hr'⟩
      exact ⟨y0, y1, y2, z3, y4.1, True.intro⟩
    exact tail W σ H' c g2 D (fun _ _ _ z => z.elim) dr (fun _ _ _ z => z.elim) fun _ _ _ z => z.elim
  · have g2 : EnvL W.M W.B [some bx, some (dt K (.int (k : Nat))), some (dt K (.bool nm)), some (anT (isV u) (dt K a.g)), some (eoK K T.cl k u), none] σ H' := by
      obtain ⟨x0, x1, x2, x3, x4, s5, e, y0, y1, y2, y3, y4⟩ := env5 g
      rw [e]
      obtain ⟨b, rfl, hb, hx⟩ := y0
      have z0 : bx.p W.M W.B (.ref b) H' := ⟨b, rfl, hb, G.box hb hx⟩
      have z1 : (dt K (.int (k : Nat))).p W.M W.B x1 H' := by cases y1; exact .int _
      have z2 : (dt K (.bool nm)).p W.M W.B x2 H' := by cases y2; exact .bl _
      have z3 : (anT (isV u) (dt K a.g)).p W.M W.B x3 H' := ⟨y3.1, by rw [show x3 = u from y3.1]; exact hr'⟩
      exact ⟨z0, z1, z2, z3, G.eo y4.1, True.intro⟩
    exact tail ⟨W.M, W.B, W.H0, fun _ => True, W.sub, fun _ _ => trivial⟩ σ H' (G.cxt c) g2 D (fun _ _ _ z => z.elim) dr (fun _ _ _ z => z.elim) fun _ _ _ z => z.elim
end
section
variable {P : Program} {w : World} {K : PySem.W.Frag} {mg : Str → Option Value} {base : Heap}
theorem tyl_callX {W : Wd} {Γ : Gam} {tl : TA} {α : Type} {C : α → Prop} {A Ts : α → List Typ} {E : XK} {As Us : List Typ} (h : TyA W Γ tl As)
    (k : ∀ vs H, TysV W.M W.B As vs H → ∃ x, C x ∧ TysV W.M W.B (A x) vs H ∧ ∀ xs H', TysV W.M W.B (Ts x) xs H' → TysV W.M W.B Us xs H') : TyL W Γ (tCall (spL C A Ts) [] E tl) Us := fun σ H c g Q q =>
  h σ H c g _ fun vs H1 e1 hv => by
    obtain ⟨x, hC, hA, hR⟩ := k vs H1 hv
    exact ⟨W.M, W.B, x, W.sub, (c.up e1).box, (c.up e1).al, hC, by rw [List.append_nil]; exact hA, fun p xs H2 e2 hp h2 h3 => q p xs H2 (e1.trans e2) (e1.free hp) h2 (hR xs H2 h3)⟩
def bxU (K : PySem.W.Frag) : List Typ := [exT fun i : Int => dt K (.int i), exT fun b : Bool => dt K (.bool b), exT fun c : Int => gd (0 ≤ c ∧ c < 2147483629) (dt K (.int c)), exT fun i : Int => dt K (.int i)]
theorem bxU_box {K : PySem.W.Frag} {M B : Addr → Prop} {xs : List V} {H : Hp} (h : TysV M B (bxU K) xs H) : BxL xs := by
  unfold bxU at h
  obtain ⟨a, b, c, d, rfl, h1, h2, h3, h4⟩ := tysv4 h
  obtain ⟨i, h1⟩ := h1
  obtain ⟨z, h2⟩ := h2
  obtain ⟨k, hk, h3⟩ := h3
  obtain ⟨j, h4⟩ := h4
  cases h1; cases h2; cases h3; cases h4
  exact ⟨_, _, _, _, rfl, hk.1, hk.2⟩
theorem boxTs_U {K : PySem.W.Frag} {M B : Addr → Prop} {g : Int} {xs : List V} {H : Hp} (h : TysV M B (boxTs K g) xs H) : TysV M B (bxU K) xs H := by
  obtain ⟨a, b, c, d, rfl, h1, h2, h3, h4⟩ := tysv4 h
  have k1 : (exT fun i : Int => dt K (.int i)).p M B a H := ⟨absI g, h1⟩
  have k2 : (exT fun b : Bool => dt K (.bool b)).p M B b H := ⟨decide ((10 : Int) ^ (18 : Int).toNat ≤ absI g), h2⟩
  have k3 : (exT fun c : Int => gd (0 ≤ c ∧ c < 2147483629) (dt K (.int c))).p M B c H := ⟨absI g % 2147483629, ⟨Int.emod_nonneg _ (by decide), Int.emod_lt_of_pos _ (by decide)⟩, h3⟩
  have k4 : (exT fun i : Int => dt K (.int i)).p M B d H := ⟨0, h4⟩
  exact ⟨k1, k2, k3, k4, True.intro⟩
theorem env2 {M B : Addr → Prop} {A C : Typ} {σ : Sx} {H : Hp} (g : EnvL M B [some A, some C, none, none, none] σ H) : ∃ u v s2 s3 s4, σ = [some u, some v, s2, s3, s4] ∧ A.p M B u H ∧ C.p M B v H := by
  match σ, g with
  | [some u, some v, s2, s3, s4], g => exact ⟨u, v, s2, s3, s4, rfl, g.1, g.2.1⟩
theorem env1 {M B : Addr → Prop} {A : Typ} {σ : Sx} {H : Hp} (g : EnvL M B [some A, none, none, none, none] σ H) : ∃ u s1 s2 s3 s4, σ = [some u, s1, s2, s3, s4] ∧ A.p M B u H := by
  match σ, g with
  | [some u, s1, s2, s3, s4], g => exact ⟨u, s1, s2, s3, s4, rfl, g.1⟩
theorem tysv1 {M B : Addr → Prop} {A1 : Typ} {us : List V} {H : Hp} (h : TysV M B [A1] us H) : ∃ a, us = [a] ∧ A1.p M B a H := by
  match us, h with
  | [a], h => exact ⟨a, rfl, h.1⟩
/-- a world in which something is known of a value -/
def Wd.kn (W : Wd) (v : V) (A : Typ) : Wd where
  M := W.M
  B := W.B
  H0 := W.H0
  Ω := fun H => W.Ω H ∧ A.p W.M W.B v H
  sub := W.sub
  kept := fun e ⟨h1, h2⟩ => ⟨W.kept e h1, A.up (e.toM W.sub) h2⟩
section
variable {W : Wd} {Γ : Gam} {K : PySem.W.Frag} {te : TE} {g : TG} {tb : TS} {N : Sx → Hp → Prop} {R : V → Hp → Prop} {Bk Ct : Sx → Hp → Prop} {v : V} {A : Typ}
theorem kn_out {H : Hp} (c : Cxt (Wd.kn W v A) H) : Cxt W H := ⟨c.box, c.al, c.ex, c.own.1⟩
theorem ty_kn : Ty (Wd.kn W v A) Γ (tC v) A := fun σ H c g Q q => q v H (Ex.refl _ _) c.own.2
/-- for .. in e: just something is known of e -/
theorem tys_forX {α : Type} {φ : α → Prop} {A : α → Typ} (h : Ty W Γ te (exT fun x => gd (φ x) (A x))) (hs : ∀ x v, φ x → TyS (Wd.kn W v (A x)) Γ (tFor (iList K (tC v)) g tb) N R Bk Ct) : TyS W Γ (tFor (iList K te) g tb) N R Bk Ct := fun σ H c e D dn dr db dc =>
  h σ H c e _ fun v H1 e1 ⟨x, hx, hv⟩ => by
    have c1 := c.up e1
    exact hs x v hx σ H1 ⟨c1.box, c1.al, c1.ex, c1.own, hv⟩ (e.up e1.toW) D (fun σ2 H2 e2 => dn σ2 H2 (e1.toW.trans e2)) dr (fun σ2 H2 e2 => db σ2 H2 (e1.toW.trans e2)) fun σ2 H2 e2 => dc σ2 H2 (e1.toW.trans e2)
theorem ty_rgl {n : Nat} (hn : n ≤ 1000) : Ty W Γ (tLstRg (tRg1 (tC (.int (n : Nat))))) (dt K (intsL ((List.range n).map fun i => ((i : Nat) : Int)))) := fun σ H c g Q q =>
  ⟨(n : Nat), rfl, RgOk.of_le (by omega) (by omega) (by omega) (by omega), fun p hp => q _ _ (Ex.new hp) (by
    have e : rgV 0 (n : Nat) = ((List.range n).map fun i => ((i : Nat) : Int)).map V.int := by
      unfold rgV
      rw [List.map_map, Int.sub_zero, Int.toNat_natCast]
      exact List.map_congr_left fun i _ => by show V.int (0 + (i : Nat)) = _; rw [Int.zero_add]; rfl
    rw [e]
    exact .lst upd_same (c.nm hp) (ints_rp _))⟩
end
def sp_law (K : PySem.W.Frag) : Sp := spT (fun _ : List Int => True) (fun ns => [scrT K ns]) (fun _ => dt K (.bool true))
theorem ok_law (T : Tx P K mg) : FnOk P w K mg base (L2.CX P w) 16 T.a_law T.f_law ["script"] (sp_law K) := by
  have G_law_box := ok_law_box (w := w) (base := base) T
  have G_law_mixed := ok_law_mixed (w := w) (base := base) T
  have G_law_cell := ok_law_cell (w := w) (base := base) T
  have G_law_take := ok_law_take (w := w) (base := base) T
  have G_law_class_right := ok_law_class_right (w := w) (base := base) T
  have nd := sc_law.nd
  refine fn_ty T.F_law sc_law (fun x _ => rfl) fun cdv Ar outer s H E hr => ⟨_, (pss_cons (ps_for PassesOwn.never rfl (pi_range1 rfl T.m_range (pa_cons (bi_max2 T.m_max (pa_cons pe_int (pa_cons (bi_min2 T.m_min (pa_cons pe_int (pa_cons (k_len (K := K) rfl T.m_len (pa_cons (pv 0) pa_nil)) pa_nil))) pa_nil))) pa_nil)) (pgn 1 nd) (pss_cons (pset 2 nd (pcall G_law_box (hr.mono (by decide)) T.D_law_box (pa_cons (pcall G_law_cell (hr.mono (by decide)) T.D_law_cell (pa_cons (pv 0) (pa_cons (pv 1) pa_nil))) pa_nil)))
    (pss_cons (pset 3 nd (pe_cmpR (k_eq (K := K) rfl hr.units) (pcall G_law_take (hr.mono (by decide)) T.D_law_take (pa_cons (pv 2) (pa_cons pe_int pa_nil))) pe_int (nomark _)))
    (pss_one (ps_for PassesOwn.never rfl (k_ilist (K := K) rfl (pcall G_law_mixed (hr.mono (by decide)) T.D_law_mixed (pa_cons (pv 2) (pa_cons (pe_listRg rfl rfl T.m_list (prg_1 rfl T.m_range pe_int)) pa_nil)))) (pgn 4 nd) (pss_cons (ps_if (pt_not (pt_val (pcall G_law_class_right (hr.mono (by decide)) T.D_law_class_right (pa_cons (pv 2) (pa_cons (pv 4) (pa_cons (pv 3) pa_nil)))))) (pss_one (ps_ret pe_bl)) pss_nil)
    (pss_one (pset 3 nd (pe_not (pv 3))))))))))
    (pss_one (ps_ret pe_bl))), fun W x hC => ?_⟩
  refine tys_seqE (W' := W) (Γ' := [some (scrT K x), none, none, none, none]) ?_ (TyS.never (tys_retW ty_bl))
  have hi : TyI W [some (scrT K x), none, none, none, none] (iRng1 (tCons (tCB rMax2 (tCons (tC (.int 2)) (tCons (tCB rMin2 (tCons (tC (.int 4)) (tCons (tCB (Ew.rLen K) (tCons (tVar 0) tNil)) tNil))) tNil))) tNil)) ((List.range (if (if ((x.length : Nat) : Int) < 4 then ((x.length : Nat) : Int) else 4) > 2 then (if ((x.length : Nat) : Int) < 4 then ((x.length : Nat) : Int) else 4) else 2 : Int).toNat).map fun i : Nat => dt K (.int (i : Nat))) := by
    refine tyi_rng1 (tya_cons (ty_cb (tya_cons ty_int (tya_cons (ty_cb (tya_cons ty_int (tya_cons (ty_cb (tya_cons (ty_var rfl) tya_nil) cbt_lenScr) tya_nil)) cbt_min2) tya_nil)) cbt_max2) tya_nil) ?_ ?_
    · split <;> (try split) <;> omega
    · split <;> (try split) <;> omega
  have hn : (if (if ((x.length : Nat) : Int) < 4 then ((x.length : Nat) : Int) else 4) > 2 then (if ((x.length : Nat) : Int) < 4 then ((x.length : Nat) : Int) else 4) else 2 : Int).toNat ≤ 4 := by
    split <;> (try split) <;> omega
  generalize (if (if ((x.length : Nat) : Int) < 4 then ((x.length : Nat) : Int) else 4) > 2 then (if ((x.length : Nat) : Int) < 4 then ((x.length : Nat) : Int) else 4) else 2 : Int).toNat = m at hi hn
  refine tys_for (Wi := fun _ (_ : Unit) => W) (Γi := fun _ (_ : Unit) => [some (scrT K x), none, none, none, none]) () hi (fun _ _ => Wd.Like.refl W) (fun σ H g => g) (fun i T' _ hT => ?_) (fun _ σ H g => g)
  obtain ⟨hl, rfl⟩ := range_map_get hT
  refine ⟨_, tyg_name 1, ?_⟩
  show TyS W [some (scrT K x), some (dt K (.int (i : Nat))), none, none, none] _ _ _ _ _
  refine TyS.imp (tys_box (Γ' := [some (scrT K x), none, none, none, none]) (T := dt K (.bool true)) (tyl_callX (As := [intT K]) (Us := bxU K) (tya_cons (ty_call (x, i) (show i ≤ 1000 by omega) (tya_cons (ty_var rfl) (tya_cons (ty_var rfl) tya_nil))) tya_nil) fun vs H hv => ?_) (fun xs H h => bxU_box h) (fun p σ H0 H e h0 g => ?_) (fun p np => ?_) (fun p σ H g => ?_) (fun p v H z => Rp.drop z)) fun σ H g => ⟨(), g⟩
  · obtain ⟨a, rfl, g, hg⟩ := tysv1 hv
    exact ⟨g, trivial, ⟨hg, True.intro⟩, fun xs H' z => boxTs_U z⟩
  · obtain ⟨u, v, s2, s3, s4, rfl, g1, g2⟩ := env2 g
    cases g2
    have g3 : (scrT K x).p W.M W.B u H := (scrT K x).up e g1
    exact ⟨g3, .int _, True.intro⟩
  · show TyS (W.bx p) [some (scrT K x), some (dt K (.int (i : Nat))), some bx, none, none] _ _ _ _ _
    refine tys_seqE (tys_set (T := exT fun g : Bool => dt K (.bool g)) (ty_opX (α := Nat) (A := fun k => gd (k < 2) (dt K (.int (k : Nat)))) (P := fun g : Bool => dt K (.bool g)) (ty_call 2 ⟨by decide, by decide⟩ (tya_cons (ty_var rfl) (tya_cons (Ty.is ty_int rfl) tya_nil))) (ty_int (n := 0)) fun k => ⟨decide ((k : Int) = 0), OpT.gdl fun _ => opt_eqI⟩)) ?_
    refine TyS.openX (n := 3) rfl fun nm => ?_
    show TyS (W.bx p) [some (scrT K x), some (dt K (.int (i : Nat))), some bx, some (dt K (.bool nm)), none] _ _ _ _ _
    refine tys_forX (α := List Int) (φ := fun ms => ms.length ≤ 1000 ∧ ∀ m ∈ ms, m ∈ (List.range 49).map fun i => ((i : Nat) : Int)) (A := fun ms => dt K (intsL ms)) (ty_call ((List.range 49).map fun i => ((i : Nat) : Int)) (by show _ ≤ 1000; decide) (tya_cons (ty_var rfl) (tya_cons (ty_rgl (n := 49) (by decide)) tya_nil))) fun ms v hm => ?_
    have hi : TyI (Wd.kn (W.bx p) v (dt K (intsL ms))) [some (scrT K x), some (dt K (.int (i : Nat))), some bx, some (dt K (.bool nm)), none] (iList K (tC v)) (ms.map fun m => dt K (.int m)) := by
      have z := tyi_lstD (W := Wd.kn (W.bx p) v (dt K (intsL ms))) (Γ := [some (scrT K x), some (dt K (.int (i : Nat))), some bx, some (dt K (.bool nm)), none]) (K := K) (te := tC v) (ds := ms.map .int) ty_kn
      rw [List.map_map] at z
      exact z
    refine tys_for (Wi := fun _ (_ : Bool) => Wd.kn (W.bx p) v (dt K (intsL ms))) (Γi := fun _ (y : Bool) => [some (scrT K x), none, some bx, some (dt K (.bool y)), none]) nm hi (fun _ _ => Wd.Like.refl _) (fun σ H g => ⟨g.1, EnvL.less (by exact ⟨fun _ _ _ _ h => h, fun _ _ _ _ h => h, fun _ _ _ _ h => h, True.intro⟩) g.2⟩) (fun j T' y hT => ?_) fun y σ H g => ⟨kn_out g.1, EnvL.less (by exact ⟨fun _ _ _ _ h => h, True.intro⟩) g.2⟩
    rw [List.getElem?_map] at hT
    cases hp : ms[j]? with
    | none => rw [hp] at hT; cases hT
    | some m =>
      rw [hp] at hT
      cases hT
      obtain ⟨k, hk, rfl⟩ := List.mem_map.mp (hm.2 m (List.mem_of_getElem? hp))
      have hk' : k < 49 := List.mem_range.mp hk
      refine ⟨_, tyg_name 4, ?_⟩
      show TyS _ [some (scrT K x), none, some bx, some (dt K (.bool y)), some (dt K (.int (k : Nat)))] _ _ _ _ _
      refine tys_guard (φ := (· = false)) (Tt.is (tt_notB (tt_B (ty_call (k, y) hk' (tya_cons (ty_var rfl) (tya_cons (ty_var rfl) (tya_cons (ty_var rfl) tya_nil)))))) rfl) (fun z => Bool.noConfusion z) fun _ => ?_
      exact TyS.imp (tys_set (ty_notV (ty_var rfl))) fun σ H q => ⟨!y, q.1, EnvL.less (by exact ⟨fun _ _ _ _ h => h, fun _ _ _ _ h => h, fun _ _ _ _ h => h, True.intro⟩) q.2⟩
  · obtain ⟨u, s1, s2, s3, s4, rfl, g1⟩ := env1 g
    exact ⟨g1, True.intro⟩
end
end
section
open PySem PySem.Spec PyProof.Rows L2 Ew
theorem exm_of {K : PySem.W.Frag} {S R : Addr} {b : Bool} (h1 : PySem.W.subIn K (.ref S) (.type "BaseException") = some true) (h1' : PySem.W.subIn K (.ref R) (.type "BaseException") = some true) (h2 : PySem.W.isClsIn K R = true) (h3 : PySem.W.typeIn K (.ref R) = some (.type "type")) (h4 : PySem.W.subIn K (.ref S) (.ref R) = some b) :
    PySem.W.exmOne K (.ref S) (.ref R) = some b := by
  have e1 : (PySem.W.subIn K (.ref R) (.type "BaseException") == some true) = true := by rw [h1'] <;> rfl
  have e2 : ((PySem.W.clsIn K R).isSome && PySem.W.typeIn K (.ref R) == some (.type "type")) = true := by
    have h2' : (PySem.W.clsIn K R).isSome = true := h2
    rw [h2', h3] <;> rfl
  show (if (PySem.W.subIn K (.ref R) (.type "BaseException") == some true) = true then (if ((PySem.W.clsIn K R).isSome && PySem.W.typeIn K (.ref R) == some (.type "type")) = true then PySem.W.subIn K (.ref S) (.ref R) else none) else none) = some b
  rw [if_pos e1, if_pos e2]
  exact h4
theorem all_mk {P : Program} {w : World} {K : PySem.W.Frag} {h : Heap} {mg : Str → Option Value} {fa : Addr} (X : K.In h) (G : h.Ns mainGlobals mg) (hfa : mg "law" = some (.ref fa))
    {f_law_box : Addr} {oc_law_box kV_law_box dc_law_box pm_law_box cd_law_box ct_law_box : Value} {od_law_box an_law_box : Option Addr} {sl_law_box : Array (Option Value)}
    {f_law_take : Addr} {oc_law_take kV_law_take dc_law_take pm_law_take cd_law_take ct_law_take : Value} {od_law_take an_law_take : Option Addr} {sl_law_take : Array (Option Value)}
    {f_law_cell : Addr} {oc_law_cell kV_law_cell dc_law_cell pm_law_cell cd_law_cell ct_law_cell : Value} {od_law_cell an_law_cell : Option Addr} {sl_law_cell : Array (Option Value)}
    {f_law_same : Addr} {oc_law_same kV_law_same dc_law_same pm_law_same cd_law_same ct_law_same : Value} {od_law_same an_law_same : Option Addr} {sl_law_same : Array (Option Value)}
    {f_law_mixed : Addr} {oc_law_mixed kV_law_mixed dc_law_mixed pm_law_mixed cd_law_mixed ct_law_mixed : Value} {od_law_mixed an_law_mixed : Option Addr} {sl_law_mixed : Array (Option Value)}
    {f_law_anything : Addr} {oc_law_anything kV_law_anything dc_law_anything pm_law_anything cd_law_anything ct_law_anything : Value} {od_law_anything an_law_anything : Option Addr} {sl_law_anything : Array (Option Value)}
    {f_law_grown : Addr} {oc_law_grown kV_law_grown dc_law_grown pm_law_grown cd_law_grown ct_law_grown : Value} {od_law_grown an_law_grown : Option Addr} {sl_law_grown : Array (Option Value)}
    {f_law_still : Addr} {oc_law_still kV_law_still dc_law_still pm_law_still cd_law_still ct_law_still : Value} {od_law_still an_law_still : Option Addr} {sl_law_still : Array (Option Value)}
    {f_law_made_0 : Addr} {oc_law_made_0 kV_law_made_0 dc_law_made_0 pm_law_made_0 cd_law_made_0 ct_law_made_0 : Value} {od_law_made_0 an_law_made_0 : Option Addr} {sl_law_made_0 : Array (Option Value)}
    {f_law_made_1 : Addr} {oc_law_made_1 kV_law_made_1 dc_law_made_1 pm_law_made_1 cd_law_made_1 ct_law_made_1 : Value} {od_law_made_1 an_law_made_1 : Option Addr} {sl_law_made_1 : Array (Option Value)}
    {f_law_classes : Addr} {oc_law_classes kV_law_classes dc_law_classes pm_law_classes cd_law_classes ct_law_classes : Value} {od_law_classes an_law_classes : Option Addr} {sl_law_classes : Array (Option Value)}
    {f_law_read : Addr} {oc_law_read kV_law_read dc_law_read pm_law_read cd_law_read ct_law_read : Value} {od_law_read an_law_read : Option Addr} {sl_law_read : Array (Option Value)}
    {f_law_raise : Addr} {oc_law_raise kV_law_raise dc_law_raise pm_law_raise cd_law_raise ct_law_raise : Value} {od_law_raise an_law_raise : Option Addr} {sl_law_raise : Array (Option Value)}
    {f_law_raised : Addr} {oc_law_raised kV_law_raised dc_law_raised pm_law_raised cd_law_raised ct_law_raised : Value} {od_law_raised an_law_raised : Option Addr} {sl_law_raised : Array (Option Value)}
    {f_law_class_right : Addr} {oc_law_class_right kV_law_class_right dc_law_class_right pm_law_class_right cd_law_class_right ct_law_class_right : Value} {od_law_class_right an_law_class_right : Option Addr} {sl_law_class_right : Array (Option Value)}
    {f_law : Addr} {oc_law kV_law dc_law pm_law cd_law ct_law : Value} {od_law an_law : Option Addr} {sl_law : Array (Option Value)}
    {D fI Td cda cc : Addr} {nmD qD : Str} {ND : Addr} {bsD subD : List Value} {snD : List Str} {abD : Bool} {colD : Option Bool} {ddD : Option Addr} {w0 w1 w2 w3 w5 : Option Value}
    {iOc ikV idoc ipm ict : Value} {iod ian : Option Addr} {iosl : Array (Option Value)} {p1 p2 p3 q1 q2 q3 q4 q5 q6 q7 q8 q9 q10 : Pos} {ccl cl tc : Value} {cdd cld td : Option Addr} {vs : Array Value} {ccs csl tsl : Array (Option Value)} {file : Str} {tf : Tok} {nT : Nat}
    {C_InvalidNumber : Addr} {nm_InvalidNumber q_InvalidNumber : Str} {N_InvalidNumber : Addr} {bs_InvalidNumber su_InvalidNumber : List Value} {sn_InvalidNumber : List Str} {ab_InvalidNumber : Bool} {col_InvalidNumber : Option Bool} {dd_InvalidNumber : Option Addr} {u0_InvalidNumber u1_InvalidNumber u2_InvalidNumber u3_InvalidNumber u5_InvalidNumber : Option Value}
    {C_InvalidNumbers : Addr} {nm_InvalidNumbers q_InvalidNumbers : Str} {N_InvalidNumbers : Addr} {bs_InvalidNumbers su_InvalidNumbers : List Value} {sn_InvalidNumbers : List Str} {ab_InvalidNumbers : Bool} {col_InvalidNumbers : Option Bool} {dd_InvalidNumbers : Option Addr} {u0_InvalidNumbers u1_InvalidNumbers u2_InvalidNumbers u3_InvalidNumbers u5_InvalidNumbers : Option Value}
    {C_InvalidModulus : Addr} {nm_InvalidModulus q_InvalidModulus : Str} {N_InvalidModulus : Addr} {bs_InvalidModulus su_InvalidModulus : List Value} {sn_InvalidModulus : List Str} {ab_InvalidModulus : Bool} {col_InvalidModulus : Option Bool} {dd_InvalidModulus : Option Addr} {u0_InvalidModulus u1_InvalidModulus u2_InvalidModulus u3_InvalidModulus u5_InvalidModulus : Option Value}
    {C_InvalidPrime : Addr} {nm_InvalidPrime q_InvalidPrime : Str} {N_InvalidPrime : Addr} {bs_InvalidPrime su_InvalidPrime : List Value} {sn_InvalidPrime : List Str} {ab_InvalidPrime : Bool} {col_InvalidPrime : Option Bool} {dd_InvalidPrime : Option Addr} {u0_InvalidPrime u1_InvalidPrime u2_InvalidPrime u3_InvalidPrime u5_InvalidPrime : Option Value}
    {C_InvalidRests : Addr} {nm_InvalidRests q_InvalidRests : Str} {N_InvalidRests : Addr} {bs_InvalidRests su_InvalidRests : List Value} {sn_InvalidRests : List Str} {ab_InvalidRests : Bool} {col_InvalidRests : Option Bool} {dd_InvalidRests : Option Addr} {u0_InvalidRests u1_InvalidRests u2_InvalidRests u3_InvalidRests u5_InvalidRests : Option Value}
    {C_InvalidBound : Addr} {nm_InvalidBound q_InvalidBound : Str} {N_InvalidBound : Addr} {bs_InvalidBound su_InvalidBound : List Value} {sn_InvalidBound : List Str} {ab_InvalidBound : Bool} {col_InvalidBound : Option Bool} {dd_InvalidBound : Option Addr} {u0_InvalidBound u1_InvalidBound u2_InvalidBound u3_InvalidBound u5_InvalidBound : Option Value}
    {C_InvalidCount : Addr} {nm_InvalidCount q_InvalidCount : Str} {N_InvalidCount : Addr} {bs_InvalidCount su_InvalidCount : List Value} {sn_InvalidCount : List Str} {ab_InvalidCount : Bool} {col_InvalidCount : Option Bool} {dd_InvalidCount : Option Addr} {u0_InvalidCount u1_InvalidCount u2_InvalidCount u3_InvalidCount u5_InvalidCount : Option Value}
    {C_InvalidWidth : Addr} {nm_InvalidWidth q_InvalidWidth : Str} {N_InvalidWidth : Addr} {bs_InvalidWidth su_InvalidWidth : List Value} {sn_InvalidWidth : List Str} {ab_InvalidWidth : Bool} {col_InvalidWidth : Option Bool} {dd_InvalidWidth : Option Addr} {u0_InvalidWidth u1_InvalidWidth u2_InvalidWidth u3_InvalidWidth u5_InvalidWidth : Option Value}
    {C_InvalidLine : Addr} {nm_InvalidLine q_InvalidLine : Str} {N_InvalidLine : Addr} {bs_InvalidLine su_InvalidLine : List Value} {sn_InvalidLine : List Str} {ab_InvalidLine : Bool} {col_InvalidLine : Option Bool} {dd_InvalidLine : Option Addr} {u0_InvalidLine u1_InvalidLine u2_InvalidLine u3_InvalidLine u5_InvalidLine : Option Value}
    {C_InvalidLines : Addr} {nm_InvalidLines q_InvalidLines : Str} {N_InvalidLines : Addr} {bs_InvalidLines su_InvalidLines : List Value} {sn_InvalidLines : List Str} {ab_InvalidLines : Bool} {col_InvalidLines : Option Bool} {dd_InvalidLines : Option Addr} {u0_InvalidLines u1_InvalidLines u2_InvalidLines u3_InvalidLines u5_InvalidLines : Option Value}
    {C_InvalidLattice : Addr} {nm_InvalidLattice q_InvalidLattice : Str} {N_InvalidLattice : Addr} {bs_InvalidLattice su_InvalidLattice : List Value} {sn_InvalidLattice : List Str} {ab_InvalidLattice : Bool} {col_InvalidLattice : Option Bool} {dd_InvalidLattice : Option Addr} {u0_InvalidLattice u1_InvalidLattice u2_InvalidLattice u3_InvalidLattice u5_InvalidLattice : Option Value}
    {C_InvalidTable : Addr} {nm_InvalidTable q_InvalidTable : Str} {N_InvalidTable : Addr} {bs_InvalidTable su_InvalidTable : List Value} {sn_InvalidTable : List Str} {ab_InvalidTable : Bool} {col_InvalidTable : Option Bool} {dd_InvalidTable : Option Addr} {u0_InvalidTable u1_InvalidTable u2_InvalidTable u3_InvalidTable u5_InvalidTable : Option Value}
    {C_InvalidGoal : Addr} {nm_InvalidGoal q_InvalidGoal : Str} {N_InvalidGoal : Addr} {bs_InvalidGoal su_InvalidGoal : List Value} {sn_InvalidGoal : List Str} {ab_InvalidGoal : Bool} {col_InvalidGoal : Option Bool} {dd_InvalidGoal : Option Addr} {u0_InvalidGoal u1_InvalidGoal u2_InvalidGoal u3_InvalidGoal u5_InvalidGoal : Option Value}
    {C_InvalidPolynomial : Addr} {nm_InvalidPolynomial q_InvalidPolynomial : Str} {N_InvalidPolynomial : Addr} {bs_InvalidPolynomial su_InvalidPolynomial : List Value} {sn_InvalidPolynomial : List Str} {ab_InvalidPolynomial : Bool} {col_InvalidPolynomial : Option Bool} {dd_InvalidPolynomial : Option Addr} {u0_InvalidPolynomial u1_InvalidPolynomial u2_InvalidPolynomial u3_InvalidPolynomial u5_InvalidPolynomial : Option Value}
    {C_InvalidDegrees : Addr} {nm_InvalidDegrees q_InvalidDegrees : Str} {N_InvalidDegrees : Addr} {bs_InvalidDegrees su_InvalidDegrees : List Value} {sn_InvalidDegrees : List Str} {ab_InvalidDegrees : Bool} {col_InvalidDegrees : Option Bool} {dd_InvalidDegrees : Option Addr} {u0_InvalidDegrees u1_InvalidDegrees u2_InvalidDegrees u3_InvalidDegrees u5_InvalidDegrees : Option Value}
    {C_InvalidItem : Addr} {nm_InvalidItem q_InvalidItem : Str} {N_InvalidItem : Addr} {bs_InvalidItem su_InvalidItem : List Value} {sn_InvalidItem : List Str} {ab_InvalidItem : Bool} {col_InvalidItem : Option Bool} {dd_InvalidItem : Option Addr} {u0_InvalidItem u1_InvalidItem u2_InvalidItem u3_InvalidItem u5_InvalidItem : Option Value}
    {C_InvalidItems : Addr} {nm_InvalidItems q_InvalidItems : Str} {N_InvalidItems : Addr} {bs_InvalidItems su_InvalidItems : List Value} {sn_InvalidItems : List Str} {ab_InvalidItems : Bool} {col_InvalidItems : Option Bool} {dd_InvalidItems : Option Addr} {u0_InvalidItems u1_InvalidItems u2_InvalidItems u3_InvalidItems u5_InvalidItems : Option Value}
    {C_InvalidNodes : Addr} {nm_InvalidNodes q_InvalidNodes : Str} {N_InvalidNodes : Addr} {bs_InvalidNodes su_InvalidNodes : List Value} {sn_InvalidNodes : List Str} {ab_InvalidNodes : Bool} {col_InvalidNodes : Option Bool} {dd_InvalidNodes : Option Addr} {u0_InvalidNodes u1_InvalidNodes u2_InvalidNodes u3_InvalidNodes u5_InvalidNodes : Option Value}
    {C_InvalidKinds : Addr} {nm_InvalidKinds q_InvalidKinds : Str} {N_InvalidKinds : Addr} {bs_InvalidKinds su_InvalidKinds : List Value} {sn_InvalidKinds : List Str} {ab_InvalidKinds : Bool} {col_InvalidKinds : Option Bool} {dd_InvalidKinds : Option Addr} {u0_InvalidKinds u1_InvalidKinds u2_InvalidKinds u3_InvalidKinds u5_InvalidKinds : Option Value}
    {C_InvalidName : Addr} {nm_InvalidName q_InvalidName : Str} {N_InvalidName : Addr} {bs_InvalidName su_InvalidName : List Value} {sn_InvalidName : List Str} {ab_InvalidName : Bool} {col_InvalidName : Option Bool} {dd_InvalidName : Option Addr} {u0_InvalidName u1_InvalidName u2_InvalidName u3_InvalidName u5_InvalidName : Option Value}
    {C_InvalidTree : Addr} {nm_InvalidTree q_InvalidTree : Str} {N_InvalidTree : Addr} {bs_InvalidTree su_InvalidTree : List Value} {sn_InvalidTree : List Str} {ab_InvalidTree : Bool} {col_InvalidTree : Option Bool} {dd_InvalidTree : Option Addr} {u0_InvalidTree u1_InvalidTree u2_InvalidTree u3_InvalidTree u5_InvalidTree : Option Value}
    {C_InvalidContext : Addr} {nm_InvalidContext q_InvalidContext : Str} {N_InvalidContext : Addr} {bs_InvalidContext su_InvalidContext : List Value} {sn_InvalidContext : List Str} {ab_InvalidContext : Bool} {col_InvalidContext : Option Bool} {dd_InvalidContext : Option Addr} {u0_InvalidContext u1_InvalidContext u2_InvalidContext u3_InvalidContext u5_InvalidContext : Option Value}
    {C_InvalidPattern : Addr} {nm_InvalidPattern q_InvalidPattern : Str} {N_InvalidPattern : Addr} {bs_InvalidPattern su_InvalidPattern : List Value} {sn_InvalidPattern : List Str} {ab_InvalidPattern : Bool} {col_InvalidPattern : Option Bool} {dd_InvalidPattern : Option Addr} {u0_InvalidPattern u1_InvalidPattern u2_InvalidPattern u3_InvalidPattern u5_InvalidPattern : Option Value}
    {C_InvalidPlace : Addr} {nm_InvalidPlace q_InvalidPlace : Str} {N_InvalidPlace : Addr} {bs_InvalidPlace su_InvalidPlace : List Value} {sn_InvalidPlace : List Str} {ab_InvalidPlace : Bool} {col_InvalidPlace : Option Bool} {dd_InvalidPlace : Option Addr} {u0_InvalidPlace u1_InvalidPlace u2_InvalidPlace u3_InvalidPlace u5_InvalidPlace : Option Value}
    {C_InvalidStandings : Addr} {nm_InvalidStandings q_InvalidStandings : Str} {N_InvalidStandings : Addr} {bs_InvalidStandings su_InvalidStandings : List Value} {sn_InvalidStandings : List Str} {ab_InvalidStandings : Bool} {col_InvalidStandings : Option Bool} {dd_InvalidStandings : Option Addr} {u0_InvalidStandings u1_InvalidStandings u2_InvalidStandings u3_InvalidStandings u5_InvalidStandings : Option Value}
    {C_InvalidBook : Addr} {nm_InvalidBook q_InvalidBook : Str} {N_InvalidBook : Addr} {bs_InvalidBook su_InvalidBook : List Value} {sn_InvalidBook : List Str} {ab_InvalidBook : Bool} {col_InvalidBook : Option Bool} {dd_InvalidBook : Option Addr} {u0_InvalidBook u1_InvalidBook u2_InvalidBook u3_InvalidBook u5_InvalidBook : Option Value}
    {C_InvalidText : Addr} {nm_InvalidText q_InvalidText : Str} {N_InvalidText : Addr} {bs_InvalidText su_InvalidText : List Value} {sn_InvalidText : List Str} {ab_InvalidText : Bool} {col_InvalidText : Option Bool} {dd_InvalidText : Option Addr} {u0_InvalidText u1_InvalidText u2_InvalidText u3_InvalidText u5_InvalidText : Option Value}
    {C_InvalidCounts : Addr} {nm_InvalidCounts q_InvalidCounts : Str} {N_InvalidCounts : Addr} {bs_InvalidCounts su_InvalidCounts : List Value} {sn_InvalidCounts : List Str} {ab_InvalidCounts : Bool} {col_InvalidCounts : Option Bool} {dd_InvalidCounts : Option Addr} {u0_InvalidCounts u1_InvalidCounts u2_InvalidCounts u3_InvalidCounts u5_InvalidCounts : Option Value}
    {C_InvalidRules : Addr} {nm_InvalidRules q_InvalidRules : Str} {N_InvalidRules : Addr} {bs_InvalidRules su_InvalidRules : List Value} {sn_InvalidRules : List Str} {ab_InvalidRules : Bool} {col_InvalidRules : Option Bool} {dd_InvalidRules : Option Addr} {u0_InvalidRules u1_InvalidRules u2_InvalidRules u3_InvalidRules u5_InvalidRules : Option Value}
    {C_InvalidEnds : Addr} {nm_InvalidEnds q_InvalidEnds : Str} {N_InvalidEnds : Addr} {bs_InvalidEnds su_InvalidEnds : List Value} {sn_InvalidEnds : List Str} {ab_InvalidEnds : Bool} {col_InvalidEnds : Option Bool} {dd_InvalidEnds : Option Addr} {u0_InvalidEnds u1_InvalidEnds u2_InvalidEnds u3_InvalidEnds u5_InvalidEnds : Option Value}
    {C_InvalidProgram : Addr} {nm_InvalidProgram q_InvalidProgram : Str} {N_InvalidProgram : Addr} {bs_InvalidProgram su_InvalidProgram : List Value} {sn_InvalidProgram : List Str} {ab_InvalidProgram : Bool} {col_InvalidProgram : Option Bool} {dd_InvalidProgram : Option Addr} {u0_InvalidProgram u1_InvalidProgram u2_InvalidProgram u3_InvalidProgram u5_InvalidProgram : Option Value}
    {C_InvalidOther : Addr} {nm_InvalidOther q_InvalidOther : Str} {N_InvalidOther : Addr} {bs_InvalidOther su_InvalidOther : List Value} {sn_InvalidOther : List Str} {ab_InvalidOther : Bool} {col_InvalidOther : Option Bool} {dd_InvalidOther : Option Addr} {u0_InvalidOther u1_InvalidOther u2_InvalidOther u3_InvalidOther u5_InvalidOther : Option Value}
    {C_InvalidStanding : Addr} {nm_InvalidStanding q_InvalidStanding : Str} {N_InvalidStanding : Addr} {bs_InvalidStanding su_InvalidStanding : List Value} {sn_InvalidStanding : List Str} {ab_InvalidStanding : Bool} {col_InvalidStanding : Option Bool} {dd_InvalidStanding : Option Addr} {u0_InvalidStanding u1_InvalidStanding u2_InvalidStanding u3_InvalidStanding u5_InvalidStanding : Option Value}
    {C_InvalidLadder : Addr} {nm_InvalidLadder q_InvalidLadder : Str} {N_InvalidLadder : Addr} {bs_InvalidLadder su_InvalidLadder : List Value} {sn_InvalidLadder : List Str} {ab_InvalidLadder : Bool} {col_InvalidLadder : Option Bool} {dd_InvalidLadder : Option Addr} {u0_InvalidLadder u1_InvalidLadder u2_InvalidLadder u3_InvalidLadder u5_InvalidLadder : Option Value}
    {C_InvalidCode : Addr} {nm_InvalidCode q_InvalidCode : Str} {N_InvalidCode : Addr} {bs_InvalidCode su_InvalidCode : List Value} {sn_InvalidCode : List Str} {ab_InvalidCode : Bool} {col_InvalidCode : Option Bool} {dd_InvalidCode : Option Addr} {u0_InvalidCode u1_InvalidCode u2_InvalidCode u3_InvalidCode u5_InvalidCode : Option Value}
    {C_InvalidAnswers : Addr} {nm_InvalidAnswers q_InvalidAnswers : Str} {N_InvalidAnswers : Addr} {bs_InvalidAnswers su_InvalidAnswers : List Value} {sn_InvalidAnswers : List Str} {ab_InvalidAnswers : Bool} {col_InvalidAnswers : Option Bool} {dd_InvalidAnswers : Option Addr} {u0_InvalidAnswers u1_InvalidAnswers u2_InvalidAnswers u3_InvalidAnswers u5_InvalidAnswers : Option Value}
    {C_InvalidClaim : Addr} {nm_InvalidClaim q_InvalidClaim : Str} {N_InvalidClaim : Addr} {bs_InvalidClaim su_InvalidClaim : List Value} {sn_InvalidClaim : List Str} {ab_InvalidClaim : Bool} {col_InvalidClaim : Option Bool} {dd_InvalidClaim : Option Addr} {u0_InvalidClaim u1_InvalidClaim u2_InvalidClaim u3_InvalidClaim u5_InvalidClaim : Option Value}
    {C_TooMany : Addr} {nm_TooMany q_TooMany : Str} {N_TooMany : Addr} {bs_TooMany su_TooMany : List Value} {sn_TooMany : List Str} {ab_TooMany : Bool} {col_TooMany : Option Bool} {dd_TooMany : Option Addr} {u0_TooMany u1_TooMany u2_TooMany u3_TooMany u5_TooMany : Option Value}
    {J_TooMany Jcd_TooMany Jcc_TooMany : Addr} {jOc_TooMany jkV_TooMany jdoc_TooMany jpm_TooMany jct_TooMany : Value} {jod_TooMany jan_TooMany : Option Addr} {josl_TooMany : Array (Option Value)} {ja1_TooMany ja2_TooMany jb1_TooMany jb2_TooMany jb3_TooMany jb4_TooMany jb5_TooMany jb6_TooMany jb7_TooMany jb8_TooMany jb9_TooMany jb10_TooMany : Pos} {jccl_TooMany jcl_TooMany : Value} {jcdd_TooMany jcld_TooMany : Option Addr} {jvs_TooMany : Array Value} {jccs_TooMany jcsl_TooMany : Array (Option Value)} {jfile_TooMany : Str} {jtf_TooMany : Tok}
    {C_Unread : Addr} {nm_Unread q_Unread : Str} {N_Unread : Addr} {bs_Unread su_Unread : List Value} {sn_Unread : List Str} {ab_Unread : Bool} {col_Unread : Option Bool} {dd_Unread : Option Addr} {u0_Unread u1_Unread u2_Unread u3_Unread u5_Unread : Option Value}
    {J_Unread Jcd_Unread Jcc_Unread : Addr} {jOc_Unread jkV_Unread jdoc_Unread jpm_Unread jct_Unread : Value} {jod_Unread jan_Unread : Option Addr} {josl_Unread : Array (Option Value)} {ja1_Unread ja2_Unread jb1_Unread jb2_Unread jb3_Unread jb4_Unread jb5_Unread jb6_Unread jb7_Unread jb8_Unread jb9_Unread jb10_Unread : Pos} {jccl_Unread jcl_Unread : Value} {jcdd_Unread jcld_Unread : Option Addr} {jvs_Unread : Array Value} {jccs_Unread jcsl_Unread : Array (Option Value)} {jfile_Unread : Str} {jtf_Unread : Tok}
    {C_NotWhole : Addr} {nm_NotWhole q_NotWhole : Str} {N_NotWhole : Addr} {bs_NotWhole su_NotWhole : List Value} {sn_NotWhole : List Str} {ab_NotWhole : Bool} {col_NotWhole : Option Bool} {dd_NotWhole : Option Addr} {u0_NotWhole u1_NotWhole u2_NotWhole u3_NotWhole u5_NotWhole : Option Value}
    {J_NotWhole Jcd_NotWhole Jcc_NotWhole : Addr} {jOc_NotWhole jkV_NotWhole jdoc_NotWhole jpm_NotWhole jct_NotWhole : Value} {jod_NotWhole jan_NotWhole : Option Addr} {josl_NotWhole : Array (Option Value)} {ja1_NotWhole ja2_NotWhole jb1_NotWhole jb2_NotWhole jb3_NotWhole jb4_NotWhole jb5_NotWhole jb6_NotWhole jb7_NotWhole jb8_NotWhole jb9_NotWhole jb10_NotWhole : Pos} {jccl_NotWhole jcl_NotWhole : Value} {jcdd_NotWhole jcld_NotWhole : Option Addr} {jvs_NotWhole : Array Value} {jccs_NotWhole jcsl_NotWhole : Array (Option Value)} {jfile_NotWhole : Str} {jtf_NotWhole : Tok}
    {C_Rest : Addr} {nm_Rest q_Rest : Str} {N_Rest : Addr} {bs_Rest su_Rest : List Value} {sn_Rest : List Str} {ab_Rest : Bool} {col_Rest : Option Bool} {dd_Rest : Option Addr} {u0_Rest u1_Rest u2_Rest u3_Rest u5_Rest : Option Value}
    {J_Rest Jcd_Rest Jcc_Rest : Addr} {jOc_Rest jkV_Rest jdoc_Rest jpm_Rest jct_Rest : Value} {jod_Rest jan_Rest : Option Addr} {josl_Rest : Array (Option Value)} {ja1_Rest ja2_Rest jb1_Rest jb2_Rest jb3_Rest jb4_Rest jb5_Rest jb6_Rest jb7_Rest jb8_Rest jb9_Rest jb10_Rest : Pos} {jccl_Rest jcl_Rest : Value} {jcdd_Rest jcld_Rest : Option Addr} {jvs_Rest : Array Value} {jccs_Rest jcsl_Rest : Array (Option Value)} {jfile_Rest : Str} {jtf_Rest : Tok}
    {C_Apart : Addr} {nm_Apart q_Apart : Str} {N_Apart : Addr} {bs_Apart su_Apart : List Value} {sn_Apart : List Str} {ab_Apart : Bool} {col_Apart : Option Bool} {dd_Apart : Option Addr} {u0_Apart u1_Apart u2_Apart u3_Apart u5_Apart : Option Value}
    {J_Apart Jcd_Apart Jcc_Apart : Addr} {jOc_Apart jkV_Apart jdoc_Apart jpm_Apart jct_Apart : Value} {jod_Apart jan_Apart : Option Addr} {josl_Apart : Array (Option Value)} {ja1_Apart ja2_Apart jb1_Apart jb2_Apart jb3_Apart jb4_Apart jb5_Apart jb6_Apart jb7_Apart jb8_Apart jb9_Apart jb10_Apart : Pos} {jccl_Apart jcl_Apart : Value} {jcdd_Apart jcld_Apart : Option Addr} {jvs_Apart : Array Value} {jccs_Apart jcsl_Apart : Array (Option Value)} {jfile_Apart : Str} {jtf_Apart : Tok}
    {C_Growing : Addr} {nm_Growing q_Growing : Str} {N_Growing : Addr} {bs_Growing su_Growing : List Value} {sn_Growing : List Str} {ab_Growing : Bool} {col_Growing : Option Bool} {dd_Growing : Option Addr} {u0_Growing u1_Growing u2_Growing u3_Growing u5_Growing : Option Value}
    {J_Growing Jcd_Growing Jcc_Growing : Addr} {jOc_Growing jkV_Growing jdoc_Growing jpm_Growing jct_Growing : Value} {jod_Growing jan_Growing : Option Addr} {josl_Growing : Array (Option Value)} {ja1_Growing ja2_Growing jb1_Growing jb2_Growing jb3_Growing jb4_Growing jb5_Growing jb6_Growing jb7_Growing jb8_Growing jb9_Growing jb10_Growing : Pos} {jccl_Growing jcl_Growing : Value} {jcdd_Growing jcld_Growing : Option Addr} {jvs_Growing : Array Value} {jccs_Growing jcsl_Growing : Array (Option Value)} {jfile_Growing : Str} {jtf_Growing : Tok}
    {C_Missing : Addr} {nm_Missing q_Missing : Str} {N_Missing : Addr} {bs_Missing su_Missing : List Value} {sn_Missing : List Str} {ab_Missing : Bool} {col_Missing : Option Bool} {dd_Missing : Option Addr} {u0_Missing u1_Missing u2_Missing u3_Missing u5_Missing : Option Value}
    {J_Missing Jcd_Missing Jcc_Missing : Addr} {jOc_Missing jkV_Missing jdoc_Missing jpm_Missing jct_Missing : Value} {jod_Missing jan_Missing : Option Addr} {josl_Missing : Array (Option Value)} {ja1_Missing ja2_Missing jb1_Missing jb2_Missing jb3_Missing jb4_Missing jb5_Missing jb6_Missing jb7_Missing jb8_Missing jb9_Missing jb10_Missing : Pos} {jccl_Missing jcl_Missing : Value} {jcdd_Missing jcld_Missing : Option Addr} {jvs_Missing : Array Value} {jccs_Missing jcsl_Missing : Array (Option Value)} {jfile_Missing : Str} {jtf_Missing : Tok}
    {C_Taken : Addr} {nm_Taken q_Taken : Str} {N_Taken : Addr} {bs_Taken su_Taken : List Value} {sn_Taken : List Str} {ab_Taken : Bool} {col_Taken : Option Bool} {dd_Taken : Option Addr} {u0_Taken u1_Taken u2_Taken u3_Taken u5_Taken : Option Value}
    {J_Taken Jcd_Taken Jcc_Taken : Addr} {jOc_Taken jkV_Taken jdoc_Taken jpm_Taken jct_Taken : Value} {jod_Taken jan_Taken : Option Addr} {josl_Taken : Array (Option Value)} {ja1_Taken ja2_Taken jb1_Taken jb2_Taken jb3_Taken jb4_Taken jb5_Taken jb6_Taken jb7_Taken jb8_Taken jb9_Taken jb10_Taken : Pos} {jccl_Taken jcl_Taken : Value} {jcdd_Taken jcld_Taken : Option Addr} {jvs_Taken : Array Value} {jccs_Taken jcsl_Taken : Array (Option Value)} {jfile_Taken : Str} {jtf_Taken : Tok}
    {C_InUse : Addr} {nm_InUse q_InUse : Str} {N_InUse : Addr} {bs_InUse su_InUse : List Value} {sn_InUse : List Str} {ab_InUse : Bool} {col_InUse : Option Bool} {dd_InUse : Option Addr} {u0_InUse u1_InUse u2_InUse u3_InUse u5_InUse : Option Value}
    {J_InUse Jcd_InUse Jcc_InUse : Addr} {jOc_InUse jkV_InUse jdoc_InUse jpm_InUse jct_InUse : Value} {jod_InUse jan_InUse : Option Addr} {josl_InUse : Array (Option Value)} {ja1_InUse ja2_InUse jb1_InUse jb2_InUse jb3_InUse jb4_InUse jb5_InUse jb6_InUse jb7_InUse jb8_InUse jb9_InUse jb10_InUse : Pos} {jccl_InUse jcl_InUse : Value} {jcdd_InUse jcld_InUse : Option Addr} {jvs_InUse : Array Value} {jccs_InUse jcsl_InUse : Array (Option Value)} {jfile_InUse : Str} {jtf_InUse : Tok}
    {C_Unlike : Addr} {nm_Unlike q_Unlike : Str} {N_Unlike : Addr} {bs_Unlike su_Unlike : List Value} {sn_Unlike : List Str} {ab_Unlike : Bool} {col_Unlike : Option Bool} {dd_Unlike : Option Addr} {u0_Unlike u1_Unlike u2_Unlike u3_Unlike u5_Unlike : Option Value}
    {J_Unlike Jcd_Unlike Jcc_Unlike : Addr} {jOc_Unlike jkV_Unlike jdoc_Unlike jpm_Unlike jct_Unlike : Value} {jod_Unlike jan_Unlike : Option Addr} {josl_Unlike : Array (Option Value)} {ja1_Unlike ja2_Unlike ja3_Unlike jb1_Unlike jb2_Unlike jb3_Unlike jb4_Unlike jb5_Unlike jb6_Unlike jb7_Unlike jb8_Unlike jb9_Unlike jb10_Unlike jb11_Unlike jb12_Unlike jb13_Unlike jb14_Unlike jb15_Unlike jb16_Unlike : Pos} {jccl_Unlike jcl_Unlike : Value} {jcdd_Unlike jcld_Unlike : Option Addr} {jvs_Unlike : Array Value} {jccs_Unlike jcsl_Unlike : Array (Option Value)} {jfile_Unlike : Str} {jtf_Unlike : Tok}
    {C_NothingToUndo : Addr} {nm_NothingToUndo q_NothingToUndo : Str} {N_NothingToUndo : Addr} {bs_NothingToUndo su_NothingToUndo : List Value} {sn_NothingToUndo : List Str} {ab_NothingToUndo : Bool} {col_NothingToUndo : Option Bool} {dd_NothingToUndo : Option Addr} {u0_NothingToUndo u1_NothingToUndo u2_NothingToUndo u3_NothingToUndo u5_NothingToUndo : Option Value}
    {J_NothingToUndo Jcd_NothingToUndo : Addr} {jOc_NothingToUndo jkV_NothingToUndo jdoc_NothingToUndo jpm_NothingToUndo jct_NothingToUndo : Value} {jod_NothingToUndo jan_NothingToUndo : Option Addr} {josl_NothingToUndo : Array (Option Value)} {ja1_NothingToUndo jb7_NothingToUndo jb8_NothingToUndo jb9_NothingToUndo jb10_NothingToUndo : Pos}
    {C_NothingToRedo : Addr} {nm_NothingToRedo q_NothingToRedo : Str} {N_NothingToRedo : Addr} {bs_NothingToRedo su_NothingToRedo : List Value} {sn_NothingToRedo : List Str} {ab_NothingToRedo : Bool} {col_NothingToRedo : Option Bool} {dd_NothingToRedo : Option Addr} {u0_NothingToRedo u1_NothingToRedo u2_NothingToRedo u3_NothingToRedo u5_NothingToRedo : Option Value}
    {J_NothingToRedo Jcd_NothingToRedo : Addr} {jOc_NothingToRedo jkV_NothingToRedo jdoc_NothingToRedo jpm_NothingToRedo jct_NothingToRedo : Value} {jod_NothingToRedo jan_NothingToRedo : Option Addr} {josl_NothingToRedo : Array (Option Value)} {ja1_NothingToRedo jb7_NothingToRedo jb8_NothingToRedo jb9_NothingToRedo jb10_NothingToRedo : Pos}
    (a_law_box : PySem.W.nsIn K mainGlobals "_law_box" = some (some (.ref f_law_box)))
    (l_law_box : K.lookup f_law_box = some ⟨oc_law_box, od_law_box, .func (PySem.W.fnOf "_law_box" "_law_box" (defArgs s_law_box) (defBody s_law_box) (defScope s_law_box) .none kV_law_box dc_law_box pm_law_box an_law_box cd_law_box ct_law_box), sl_law_box⟩)
    (c_law_box : PySem.W.codeIn K cd_law_box "_law_box" = true)
    (k_law_box : PySem.W.keepIn K (.ref f_law_box) = true)
    (a_law_take : PySem.W.nsIn K mainGlobals "_law_take" = some (some (.ref f_law_take)))
    (l_law_take : K.lookup f_law_take = some ⟨oc_law_take, od_law_take, .func (PySem.W.fnOf "_law_take" "_law_take" (defArgs s_law_take) (defBody s_law_take) (defScope s_law_take) .none kV_law_take dc_law_take pm_law_take an_law_take cd_law_take ct_law_take), sl_law_take⟩)
    (c_law_take : PySem.W.codeIn K cd_law_take "_law_take" = true)
    (k_law_take : PySem.W.keepIn K (.ref f_law_take) = true)
    (a_law_cell : PySem.W.nsIn K mainGlobals "_law_cell" = some (some (.ref f_law_cell)))
    (l_law_cell : K.lookup f_law_cell = some ⟨oc_law_cell, od_law_cell, .func (PySem.W.fnOf "_law_cell" "_law_cell" (defArgs s_law_cell) (defBody s_law_cell) (defScope s_law_cell) .none kV_law_cell dc_law_cell pm_law_cell an_law_cell cd_law_cell ct_law_cell), sl_law_cell⟩)
    (c_law_cell : PySem.W.codeIn K cd_law_cell "_law_cell" = true)
    (k_law_cell : PySem.W.keepIn K (.ref f_law_cell) = true)
    (a_law_same : PySem.W.nsIn K mainGlobals "_law_same" = some (some (.ref f_law_same)))
    (l_law_same : K.lookup f_law_same = some ⟨oc_law_same, od_law_same, .func (PySem.W.fnOf "_law_same" "_law_same" (defArgs s_law_same) (defBody s_law_same) (defScope s_law_same) .none kV_law_same dc_law_same pm_law_same an_law_same cd_law_same ct_law_same), sl_law_same⟩)
    (c_law_same : PySem.W.codeIn K cd_law_same "_law_same" = true)
    (k_law_same : PySem.W.keepIn K (.ref f_law_same) = true)
    (a_law_mixed : PySem.W.nsIn K mainGlobals "_law_mixed" = some (some (.ref f_law_mixed)))
    (l_law_mixed : K.lookup f_law_mixed = some ⟨oc_law_mixed, od_law_mixed, .func (PySem.W.fnOf "_law_mixed" "_law_mixed" (defArgs s_law_mixed) (defBody s_law_mixed) (defScope s_law_mixed) .none kV_law_mixed dc_law_mixed pm_law_mixed an_law_mixed cd_law_mixed ct_law_mixed), sl_law_mixed⟩)
    (c_law_mixed : PySem.W.codeIn K cd_law_mixed "_law_mixed" = true)
    (k_law_mixed : PySem.W.keepIn K (.ref f_law_mixed) = true)
    (a_law_anything : PySem.W.nsIn K mainGlobals "_law_anything" = some (some (.ref f_law_anything)))
    (l_law_anything : K.lookup f_law_anything = some ⟨oc_law_anything, od_law_anything, .func (PySem.W.fnOf "_law_anything" "_law_anything" (defArgs s_law_anything) (defBody s_law_anything) (defScope s_law_anything) .none kV_law_anything dc_law_anything pm_law_anything an_law_anything cd_law_anything ct_law_anything), sl_law_anything⟩)
    (c_law_anything : PySem.W.codeIn K cd_law_anything "_law_anything" = true)
    (k_law_anything : PySem.W.keepIn K (.ref f_law_anything) = true)
    (a_law_grown : PySem.W.nsIn K mainGlobals "_law_grown" = some (some (.ref f_law_grown)))
    (l_law_grown : K.lookup f_law_grown = some ⟨oc_law_grown, od_law_grown, .func (PySem.W.fnOf "_law_grown" "_law_grown" (defArgs s_law_grown) (defBody s_law_grown) (defScope s_law_grown) .none kV_law_grown dc_law_grown pm_law_grown an_law_grown cd_law_grown ct_law_grown), sl_law_grown⟩)
    (c_law_grown : PySem.W.codeIn K cd_law_grown "_law_grown" = true)
    (k_law_grown : PySem.W.keepIn K (.ref f_law_grown) = true)
    (a_law_still : PySem.W.nsIn K mainGlobals "_law_still" = some (some (.ref f_law_still)))
    (l_law_still : K.lookup f_law_still = some ⟨oc_law_still, od_law_still, .func (PySem.W.fnOf "_law_still" "_law_still" (defArgs s_law_still) (defBody s_law_still) (defScope s_law_still) .none kV_law_still dc_law_still pm_law_still an_law_still cd_law_still ct_law_still), sl_law_still⟩)
    (c_law_still : PySem.W.codeIn K cd_law_still "_law_still" = true)
    (k_law_still : PySem.W.keepIn K (.ref f_law_still) = true)
    (a_law_made_0 : PySem.W.nsIn K mainGlobals "_law_made_0" = some (some (.ref f_law_made_0)))
    (l_law_made_0 : K.lookup f_law_made_0 = some ⟨oc_law_made_0, od_law_made_0, .func (PySem.W.fnOf "_law_made_0" "_law_made_0" (defArgs s_law_made_0) (defBody s_law_made_0) (defScope s_law_made_0) .none kV_law_made_0 dc_law_made_0 pm_law_made_0 an_law_made_0 cd_law_made_0 ct_law_made_0), sl_law_made_0⟩)
    (c_law_made_0 : PySem.W.codeIn K cd_law_made_0 "_law_made_0" = true)
    (k_law_made_0 : PySem.W.keepIn K (.ref f_law_made_0) = true)
    (a_law_made_1 : PySem.W.nsIn K mainGlobals "_law_made_1" = some (some (.ref f_law_made_1)))
    (l_law_made_1 : K.lookup f_law_made_1 = some ⟨oc_law_made_1, od_law_made_1, .func (PySem.W.fnOf "_law_made_1" "_law_made_1" (defArgs s_law_made_1) (defBody s_law_made_1) (defScope s_law_made_1) .none kV_law_made_1 dc_law_made_1 pm_law_made_1 an_law_made_1 cd_law_made_1 ct_law_made_1), sl_law_made_1⟩)
    (c_law_made_1 : PySem.W.codeIn K cd_law_made_1 "_law_made_1" = true)
    (k_law_made_1 : PySem.W.keepIn K (.ref f_law_made_1) = true)
    (a_law_classes : PySem.W.nsIn K mainGlobals "_law_classes" = some (some (.ref f_law_classes)))
    (l_law_classes : K.lookup f_law_classes = some ⟨oc_law_classes, od_law_classes, .func (PySem.W.fnOf "_law_classes" "_law_classes" (defArgs s_law_classes) (defBody s_law_classes) (defScope s_law_classes) .none kV_law_classes dc_law_classes pm_law_classes an_law_classes cd_law_classes ct_law_classes), sl_law_classes⟩)
    (c_law_classes : PySem.W.codeIn K cd_law_classes "_law_classes" = true)
    (k_law_classes : PySem.W.keepIn K (.ref f_law_classes) = true)
    (a_law_read : PySem.W.nsIn K mainGlobals "_law_read" = some (some (.ref f_law_read)))
    (l_law_read : K.lookup f_law_read = some ⟨oc_law_read, od_law_read, .func (PySem.W.fnOf "_law_read" "_law_read" (defArgs s_law_read) (defBody s_law_read) (defScope s_law_read) .none kV_law_read dc_law_read pm_law_read an_law_read cd_law_read ct_law_read), sl_law_read⟩)
    (c_law_read : PySem.W.codeIn K cd_law_read "_law_read" = true)
    (k_law_read : PySem.W.keepIn K (.ref f_law_read) = true)
    (a_law_raise : PySem.W.nsIn K mainGlobals "_law_raise" = some (some (.ref f_law_raise)))
    (l_law_raise : K.lookup f_law_raise = some ⟨oc_law_raise, od_law_raise, .func (PySem.W.fnOf "_law_raise" "_law_raise" (defArgs s_law_raise) (defBody s_law_raise) (defScope s_law_raise) .none kV_law_raise dc_law_raise pm_law_raise an_law_raise cd_law_raise ct_law_raise), sl_law_raise⟩)
    (c_law_raise : PySem.W.codeIn K cd_law_raise "_law_raise" = true)
    (k_law_raise : PySem.W.keepIn K (.ref f_law_raise) = true)
    (a_law_raised : PySem.W.nsIn K mainGlobals "_law_raised" = some (some (.ref f_law_raised)))
    (l_law_raised : K.lookup f_law_raised = some ⟨oc_law_raised, od_law_raised, .func (PySem.W.fnOf "_law_raised" "_law_raised" (defArgs s_law_raised) (defBody s_law_raised) (defScope s_law_raised) .none kV_law_raised dc_law_raised pm_law_raised an_law_raised cd_law_raised ct_law_raised), sl_law_raised⟩)
    (c_law_raised : PySem.W.codeIn K cd_law_raised "_law_raised" = true)
    (k_law_raised : PySem.W.keepIn K (.ref f_law_raised) = true)
    (a_law_class_right : PySem.W.nsIn K mainGlobals "_law_class_right" = some (some (.ref f_law_class_right)))
    (l_law_class_right : K.lookup f_law_class_right = some ⟨oc_law_class_right, od_law_class_right, .func (PySem.W.fnOf "_law_class_right" "_law_class_right" (defArgs s_law_class_right) (defBody s_law_class_right) (defScope s_law_class_right) .none kV_law_class_right dc_law_class_right pm_law_class_right an_law_class_right cd_law_class_right ct_law_class_right), sl_law_class_right⟩)
    (c_law_class_right : PySem.W.codeIn K cd_law_class_right "_law_class_right" = true)
    (k_law_class_right : PySem.W.keepIn K (.ref f_law_class_right) = true)
    (a_law : PySem.W.nsIn K mainGlobals "law" = some (some (.ref f_law)))
    (l_law : K.lookup f_law = some ⟨oc_law, od_law, .func (PySem.W.fnOf "law" "law" (defArgs s_law) (defBody s_law) (defScope s_law) .none kV_law dc_law pm_law an_law cd_law ct_law), sl_law⟩)
    (c_law : PySem.W.codeIn K cd_law "law" = true)
    (k_law : PySem.W.keepIn K (.ref f_law) = true)
    (z_isinstance : PySem.W.nsIn K mainGlobals "isinstance" = some none)
    (z_int : PySem.W.nsIn K mainGlobals "int" = some none)
    (z_bool : PySem.W.nsIn K mainGlobals "bool" = some none)
    (z_str : PySem.W.nsIn K mainGlobals "str" = some none)
    (z_list : PySem.W.nsIn K mainGlobals "list" = some none)
    (z_tuple : PySem.W.nsIn K mainGlobals "tuple" = some none)
    (z_dict : PySem.W.nsIn K mainGlobals "dict" = some none)
    (z_len : PySem.W.nsIn K mainGlobals "len" = some none)
    (z_sum : PySem.W.nsIn K mainGlobals "sum" = some none)
    (z_range : PySem.W.nsIn K mainGlobals "range" = some none)
    (z_abs : PySem.W.nsIn K mainGlobals "abs" = some none)
    (z_max : PySem.W.nsIn K mainGlobals "max" = some none)
    (z_min : PySem.W.nsIn K mainGlobals "min" = some none)
    (aW : PySem.W.nsIn K mainGlobals "WrapError" = some (some (.ref D)))
    (xW : K.lookup D = some (excClassObj nmD qD D ND bsD PySem.WrX.veTail true snD subD abD colD ddD w0 w1 w2 w3 w5 "ValueError.__new__"))
    (iW : PySem.W.findIn K (.ref D) "__init__" = some (some (.ref fI)))
    (lI : K.lookup fI = some ⟨iOc, iod, .func (PySem.W.ksFn "__init__" "WrapError.__init__" (PySem.WrX.iA p1 p2 p3) (PySem.WrX.iB q1 q2 q3 q4 q5 q6 q7 q8 q9 q10) PySem.WrX.iS (.ref Td) ikV idoc ipm ian (.ref cda) ict cc), iosl⟩)
    (cI : PySem.W.codeIn K (.ref cda) "WrapError.__init__" = true)
    (lcd : K.lookup cda = some ⟨ccl, cdd, .fields vs, ccs⟩)
    (hvs : vs[2]? = some (.str file tf))
    (hfile : ((P.main.file : Str) == file) = true)
    (lcc : K.lookup cc = some ⟨cl, cld, .cell (some (.ref D)), csl⟩)
    (lT : K.lookup Td = some ⟨tc, td, .seq #[.none] nT, tsl⟩)
    (hline : (q3.endLine == q5.line) = true)
    (mS : PySem.W.nsIn K mainGlobals "super" = some none)
    (top_ : (P.main.scope.names.lookup ("super" : Str)).isSome = false)
    (any_ : PySem.W.nsIn K cStatics "thirdparty.any" = some none)
    (sp_ : PySem.W.specialIn K (.builtin "object.__class__") "__get__" = some (some (.builtin "getset_descriptor.__get__")))
    (tk_ : PySem.W.takesIn K (.builtin "object.__class__") = some true)
    (kv_ : PySem.W.kitMeta "ValueError" = true)
    (z_VE : PySem.W.nsIn K mainGlobals "ValueError" = some none)
    (tI : PySem.W.typeIn K (.ref fI) = some (.type "function"))
    (fnI : PySem.W.fnIn K fI = true)
    (alI : PySem.W.alongIn K "__init__" (.ref D :: PySem.WrX.veTail) = some (some (.ref fI)))
    (a_InvalidNumber : PySem.W.nsIn K mainGlobals "InvalidNumber" = some (some (.ref C_InvalidNumber)))
    (x_InvalidNumber : K.lookup C_InvalidNumber = some (excClassObj nm_InvalidNumber q_InvalidNumber C_InvalidNumber N_InvalidNumber bs_InvalidNumber (.ref D :: PySem.WrX.veTail) true sn_InvalidNumber su_InvalidNumber ab_InvalidNumber col_InvalidNumber dd_InvalidNumber u0_InvalidNumber u1_InvalidNumber u2_InvalidNumber u3_InvalidNumber u5_InvalidNumber "ValueError.__new__"))
    (b_InvalidNumber : Hd.clsB K C_InvalidNumber fI ["given"] = true)
    (ne_InvalidNumber : C_InvalidNumber ≠ D)
    (a_InvalidNumbers : PySem.W.nsIn K mainGlobals "InvalidNumbers" = some (some (.ref C_InvalidNumbers)))
    (x_InvalidNumbers : K.lookup C_InvalidNumbers = some (excClassObj nm_InvalidNumbers q_InvalidNumbers C_InvalidNumbers N_InvalidNumbers bs_InvalidNumbers (.ref D :: PySem.WrX.veTail) true sn_InvalidNumbers su_InvalidNumbers ab_InvalidNumbers col_InvalidNumbers dd_InvalidNumbers u0_InvalidNumbers u1_InvalidNumbers u2_InvalidNumbers u3_InvalidNumbers u5_InvalidNumbers "ValueError.__new__"))
    (b_InvalidNumbers : Hd.clsB K C_InvalidNumbers fI ["given"] = true)
    (ne_InvalidNumbers : C_InvalidNumbers ≠ D)
    (a_InvalidModulus : PySem.W.nsIn K mainGlobals "InvalidModulus" = some (some (.ref C_InvalidModulus)))
    (x_InvalidModulus : K.lookup C_InvalidModulus = some (excClassObj nm_InvalidModulus q_InvalidModulus C_InvalidModulus N_InvalidModulus bs_InvalidModulus (.ref D :: PySem.WrX.veTail) true sn_InvalidModulus su_InvalidModulus ab_InvalidModulus col_InvalidModulus dd_InvalidModulus u0_InvalidModulus u1_InvalidModulus u2_InvalidModulus u3_InvalidModulus u5_InvalidModulus "ValueError.__new__"))
    (b_InvalidModulus : Hd.clsB K C_InvalidModulus fI ["given"] = true)
    (ne_InvalidModulus : C_InvalidModulus ≠ D)
    (a_InvalidPrime : PySem.W.nsIn K mainGlobals "InvalidPrime" = some (some (.ref C_InvalidPrime)))
    (x_InvalidPrime : K.lookup C_InvalidPrime = some (excClassObj nm_InvalidPrime q_InvalidPrime C_InvalidPrime N_InvalidPrime bs_InvalidPrime (.ref D :: PySem.WrX.veTail) true sn_InvalidPrime su_InvalidPrime ab_InvalidPrime col_InvalidPrime dd_InvalidPrime u0_InvalidPrime u1_InvalidPrime u2_InvalidPrime u3_InvalidPrime u5_InvalidPrime "ValueError.__new__"))
    (b_InvalidPrime : Hd.clsB K C_InvalidPrime fI ["given"] = true)
    (ne_InvalidPrime : C_InvalidPrime ≠ D)
    (a_InvalidRests : PySem.W.nsIn K mainGlobals "InvalidRests" = some (some (.ref C_InvalidRests)))
    (x_InvalidRests : K.lookup C_InvalidRests = some (excClassObj nm_InvalidRests q_InvalidRests C_InvalidRests N_InvalidRests bs_InvalidRests (.ref D :: PySem.WrX.veTail) true sn_InvalidRests su_InvalidRests ab_InvalidRests col_InvalidRests dd_InvalidRests u0_InvalidRests u1_InvalidRests u2_InvalidRests u3_InvalidRests u5_InvalidRests "ValueError.__new__"))
    (b_InvalidRests : Hd.clsB K C_InvalidRests fI ["given"] = true)
    (ne_InvalidRests : C_InvalidRests ≠ D)
    (a_InvalidBound : PySem.W.nsIn K mainGlobals "InvalidBound" = some (some (.ref C_InvalidBound)))
    (x_InvalidBound : K.lookup C_InvalidBound = some (excClassObj nm_InvalidBound q_InvalidBound C_InvalidBound N_InvalidBound bs_InvalidBound (.ref D :: PySem.WrX.veTail) true sn_InvalidBound su_InvalidBound ab_InvalidBound col_InvalidBound dd_InvalidBound u0_InvalidBound u1_InvalidBound u2_InvalidBound u3_InvalidBound u5_InvalidBound "ValueError.__new__"))
    (b_InvalidBound : Hd.clsB K C_InvalidBound fI ["given"] = true)
    (ne_InvalidBound : C_InvalidBound ≠ D)
    (a_InvalidCount : PySem.W.nsIn K mainGlobals "InvalidCount" = some (some (.ref C_InvalidCount)))
    (x_InvalidCount : K.lookup C_InvalidCount = some (excClassObj nm_InvalidCount q_InvalidCount C_InvalidCount N_InvalidCount bs_InvalidCount (.ref D :: PySem.WrX.veTail) true sn_InvalidCount su_InvalidCount ab_InvalidCount col_InvalidCount dd_InvalidCount u0_InvalidCount u1_InvalidCount u2_InvalidCount u3_InvalidCount u5_InvalidCount "ValueError.__new__"))
    (b_InvalidCount : Hd.clsB K C_InvalidCount fI ["given"] = true)
    (ne_InvalidCount : C_InvalidCount ≠ D)
    (a_InvalidWidth : PySem.W.nsIn K mainGlobals "InvalidWidth" = some (some (.ref C_InvalidWidth)))
    (x_InvalidWidth : K.lookup C_InvalidWidth = some (excClassObj nm_InvalidWidth q_InvalidWidth C_InvalidWidth N_InvalidWidth bs_InvalidWidth (.ref D :: PySem.WrX.veTail) true sn_InvalidWidth su_InvalidWidth ab_InvalidWidth col_InvalidWidth dd_InvalidWidth u0_InvalidWidth u1_InvalidWidth u2_InvalidWidth u3_InvalidWidth u5_InvalidWidth "ValueError.__new__"))
    (b_InvalidWidth : Hd.clsB K C_InvalidWidth fI ["given"] = true)
    (ne_InvalidWidth : C_InvalidWidth ≠ D)
    (a_InvalidLine : PySem.W.nsIn K mainGlobals "InvalidLine" = some (some (.ref C_InvalidLine)))
    (x_InvalidLine : K.lookup C_InvalidLine = some (excClassObj nm_InvalidLine q_InvalidLine C_InvalidLine N_InvalidLine bs_InvalidLine (.ref D :: PySem.WrX.veTail) true sn_InvalidLine su_InvalidLine ab_InvalidLine col_InvalidLine dd_InvalidLine u0_InvalidLine u1_InvalidLine u2_InvalidLine u3_InvalidLine u5_InvalidLine "ValueError.__new__"))
    (b_InvalidLine : Hd.clsB K C_InvalidLine fI ["given"] = true)
    (ne_InvalidLine : C_InvalidLine ≠ D)
    (a_InvalidLines : PySem.W.nsIn K mainGlobals "InvalidLines" = some (some (.ref C_InvalidLines)))
    (x_InvalidLines : K.lookup C_InvalidLines = some (excClassObj nm_InvalidLines q_InvalidLines C_InvalidLines N_InvalidLines bs_InvalidLines (.ref D :: PySem.WrX.veTail) true sn_InvalidLines su_InvalidLines ab_InvalidLines col_InvalidLines dd_InvalidLines u0_InvalidLines u1_InvalidLines u2_InvalidLines u3_InvalidLines u5_InvalidLines "ValueError.__new__"))
    (b_InvalidLines : Hd.clsB K C_InvalidLines fI ["given"] = true)
    (ne_InvalidLines : C_InvalidLines ≠ D)
    (a_InvalidLattice : PySem.W.nsIn K mainGlobals "InvalidLattice" = some (some (.ref C_InvalidLattice)))
    (x_InvalidLattice : K.lookup C_InvalidLattice = some (excClassObj nm_InvalidLattice q_InvalidLattice C_InvalidLattice N_InvalidLattice bs_InvalidLattice (.ref D :: PySem.WrX.veTail) true sn_InvalidLattice su_InvalidLattice ab_InvalidLattice col_InvalidLattice dd_InvalidLattice u0_InvalidLattice u1_InvalidLattice u2_InvalidLattice u3_InvalidLattice u5_InvalidLattice "ValueError.__new__"))
    (b_InvalidLattice : Hd.clsB K C_InvalidLattice fI ["given"] = true)
    (ne_InvalidLattice : C_InvalidLattice ≠ D)
    (a_InvalidTable : PySem.W.nsIn K mainGlobals "InvalidTable" = some (some (.ref C_InvalidTable)))
    (x_InvalidTable : K.lookup C_InvalidTable = some (excClassObj nm_InvalidTable q_InvalidTable C_InvalidTable N_InvalidTable bs_InvalidTable (.ref D :: PySem.WrX.veTail) true sn_InvalidTable su_InvalidTable ab_InvalidTable col_InvalidTable dd_InvalidTable u0_InvalidTable u1_InvalidTable u2_InvalidTable u3_InvalidTable u5_InvalidTable "ValueError.__new__"))
    (b_InvalidTable : Hd.clsB K C_InvalidTable fI ["given"] = true)
    (ne_InvalidTable : C_InvalidTable ≠ D)
    (a_InvalidGoal : PySem.W.nsIn K mainGlobals "InvalidGoal" = some (some (.ref C_InvalidGoal)))
    (x_InvalidGoal : K.lookup C_InvalidGoal = some (excClassObj nm_InvalidGoal q_InvalidGoal C_InvalidGoal N_InvalidGoal bs_InvalidGoal (.ref D :: PySem.WrX.veTail) true sn_InvalidGoal su_InvalidGoal ab_InvalidGoal col_InvalidGoal dd_InvalidGoal u0_InvalidGoal u1_InvalidGoal u2_InvalidGoal u3_InvalidGoal u5_InvalidGoal "ValueError.__new__"))
    (b_InvalidGoal : Hd.clsB K C_InvalidGoal fI ["given"] = true)
    (ne_InvalidGoal : C_InvalidGoal ≠ D)
    (a_InvalidPolynomial : PySem.W.nsIn K mainGlobals "InvalidPolynomial" = some (some (.ref C_InvalidPolynomial)))
    (x_InvalidPolynomial : K.lookup C_InvalidPolynomial = some (excClassObj nm_InvalidPolynomial q_InvalidPolynomial C_InvalidPolynomial N_InvalidPolynomial bs_InvalidPolynomial (.ref D :: PySem.WrX.veTail) true sn_InvalidPolynomial su_InvalidPolynomial ab_InvalidPolynomial col_InvalidPolynomial dd_InvalidPolynomial u0_InvalidPolynomial u1_InvalidPolynomial u2_InvalidPolynomial u3_InvalidPolynomial u5_InvalidPolynomial "ValueError.__new__"))
    (b_InvalidPolynomial : Hd.clsB K C_InvalidPolynomial fI ["given"] = true)
    (ne_InvalidPolynomial : C_InvalidPolynomial ≠ D)
    (a_InvalidDegrees : PySem.W.nsIn K mainGlobals "InvalidDegrees" = some (some (.ref C_InvalidDegrees)))
    (x_InvalidDegrees : K.lookup C_InvalidDegrees = some (excClassObj nm_InvalidDegrees q_InvalidDegrees C_InvalidDegrees N_InvalidDegrees bs_InvalidDegrees (.ref D :: PySem.WrX.veTail) true sn_InvalidDegrees su_InvalidDegrees ab_InvalidDegrees col_InvalidDegrees dd_InvalidDegrees u0_InvalidDegrees u1_InvalidDegrees u2_InvalidDegrees u3_InvalidDegrees u5_InvalidDegrees "ValueError.__new__"))
    (b_InvalidDegrees : Hd.clsB K C_InvalidDegrees fI ["given"] = true)
    (ne_InvalidDegrees : C_InvalidDegrees ≠ D)
    (a_InvalidItem : PySem.W.nsIn K mainGlobals "InvalidItem" = some (some (.ref C_InvalidItem)))
    (x_InvalidItem : K.lookup C_InvalidItem = some (excClassObj nm_InvalidItem q_InvalidItem C_InvalidItem N_InvalidItem bs_InvalidItem (.ref D :: PySem.WrX.veTail) true sn_InvalidItem su_InvalidItem ab_InvalidItem col_InvalidItem dd_InvalidItem u0_InvalidItem u1_InvalidItem u2_InvalidItem u3_InvalidItem u5_InvalidItem "ValueError.__new__"))
    (b_InvalidItem : Hd.clsB K C_InvalidItem fI ["given"] = true)
    (ne_InvalidItem : C_InvalidItem ≠ D)
    (a_InvalidItems : PySem.W.nsIn K mainGlobals "InvalidItems" = some (some (.ref C_InvalidItems)))
    (x_InvalidItems : K.lookup C_InvalidItems = some (excClassObj nm_InvalidItems q_InvalidItems C_InvalidItems N_InvalidItems bs_InvalidItems (.ref D :: PySem.WrX.veTail) true sn_InvalidItems su_InvalidItems ab_InvalidItems col_InvalidItems dd_InvalidItems u0_InvalidItems u1_InvalidItems u2_InvalidItems u3_InvalidItems u5_InvalidItems "ValueError.__new__"))
    (b_InvalidItems : Hd.clsB K C_InvalidItems fI ["given"] = true)
    (ne_InvalidItems : C_InvalidItems ≠ D)
    (a_InvalidNodes : PySem.W.nsIn K mainGlobals "InvalidNodes" = some (some (.ref C_InvalidNodes)))
    (x_InvalidNodes : K.lookup C_InvalidNodes = some (excClassObj nm_InvalidNodes q_InvalidNodes C_InvalidNodes N_InvalidNodes bs_InvalidNodes (.ref D :: PySem.WrX.veTail) true sn_InvalidNodes su_InvalidNodes ab_InvalidNodes col_InvalidNodes dd_InvalidNodes u0_InvalidNodes u1_InvalidNodes u2_InvalidNodes u3_InvalidNodes u5_InvalidNodes "ValueError.__new__"))
    (b_InvalidNodes : Hd.clsB K C_InvalidNodes fI ["given"] = true)
    (ne_InvalidNodes : C_InvalidNodes ≠ D)
    (a_InvalidKinds : PySem.W.nsIn K mainGlobals "InvalidKinds" = some (some (.ref C_InvalidKinds)))
    (x_InvalidKinds : K.lookup C_InvalidKinds = some (excClassObj nm_InvalidKinds q_InvalidKinds C_InvalidKinds N_InvalidKinds bs_InvalidKinds (.ref D :: PySem.WrX.veTail) true sn_InvalidKinds su_InvalidKinds ab_InvalidKinds col_InvalidKinds dd_InvalidKinds u0_InvalidKinds u1_InvalidKinds u2_InvalidKinds u3_InvalidKinds u5_InvalidKinds "ValueError.__new__"))
    (b_InvalidKinds : Hd.clsB K C_InvalidKinds fI ["given"] = true)
    (ne_InvalidKinds : C_InvalidKinds ≠ D)
    (a_InvalidName : PySem.W.nsIn K mainGlobals "InvalidName" = some (some (.ref C_InvalidName)))
    (x_InvalidName : K.lookup C_InvalidName = some (excClassObj nm_InvalidName q_InvalidName C_InvalidName N_InvalidName bs_InvalidName (.ref D :: PySem.WrX.veTail) true sn_InvalidName su_InvalidName ab_InvalidName col_InvalidName dd_InvalidName u0_InvalidName u1_InvalidName u2_InvalidName u3_InvalidName u5_InvalidName "ValueError.__new__"))
    (b_InvalidName : Hd.clsB K C_InvalidName fI ["given"] = true)
    (ne_InvalidName : C_InvalidName ≠ D)
    (a_InvalidTree : PySem.W.nsIn K mainGlobals "InvalidTree" = some (some (.ref C_InvalidTree)))
    (x_InvalidTree : K.lookup C_InvalidTree = some (excClassObj nm_InvalidTree q_InvalidTree C_InvalidTree N_InvalidTree bs_InvalidTree (.ref D :: PySem.WrX.veTail) true sn_InvalidTree su_InvalidTree ab_InvalidTree col_InvalidTree dd_InvalidTree u0_InvalidTree u1_InvalidTree u2_InvalidTree u3_InvalidTree u5_InvalidTree "ValueError.__new__"))
    (b_InvalidTree : Hd.clsB K C_InvalidTree fI ["given"] = true)
    (ne_InvalidTree : C_InvalidTree ≠ D)
    (a_InvalidContext : PySem.W.nsIn K mainGlobals "InvalidContext" = some (some (.ref C_InvalidContext)))
    (x_InvalidContext : K.lookup C_InvalidContext = some (excClassObj nm_InvalidContext q_InvalidContext C_InvalidContext N_InvalidContext bs_InvalidContext (.ref D :: PySem.WrX.veTail) true sn_InvalidContext su_InvalidContext ab_InvalidContext col_InvalidContext dd_InvalidContext u0_InvalidContext u1_InvalidContext u2_InvalidContext u3_InvalidContext u5_InvalidContext "ValueError.__new__"))
    (b_InvalidContext : Hd.clsB K C_InvalidContext fI ["given"] = true)
    (ne_InvalidContext : C_InvalidContext ≠ D)
    (a_InvalidPattern : PySem.W.nsIn K mainGlobals "InvalidPattern" = some (some (.ref C_InvalidPattern)))
    (x_InvalidPattern : K.lookup C_InvalidPattern = some (excClassObj nm_InvalidPattern q_InvalidPattern C_InvalidPattern N_InvalidPattern bs_InvalidPattern (.ref D :: PySem.WrX.veTail) true sn_InvalidPattern su_InvalidPattern ab_InvalidPattern col_InvalidPattern dd_InvalidPattern u0_InvalidPattern u1_InvalidPattern u2_InvalidPattern u3_InvalidPattern u5_InvalidPattern "ValueError.__new__"))
    (b_InvalidPattern : Hd.clsB K C_InvalidPattern fI ["given"] = true)
    (ne_InvalidPattern : C_InvalidPattern ≠ D)
    (a_InvalidPlace : PySem.W.nsIn K mainGlobals "InvalidPlace" = some (some (.ref C_InvalidPlace)))
    (x_InvalidPlace : K.lookup C_InvalidPlace = some (excClassObj nm_InvalidPlace q_InvalidPlace C_InvalidPlace N_InvalidPlace bs_InvalidPlace (.ref D :: PySem.WrX.veTail) true sn_InvalidPlace su_InvalidPlace ab_InvalidPlace col_InvalidPlace dd_InvalidPlace u0_InvalidPlace u1_InvalidPlace u2_InvalidPlace u3_InvalidPlace u5_InvalidPlace "ValueError.__new__"))
    (b_InvalidPlace : Hd.clsB K C_InvalidPlace fI ["given"] = true)
    (ne_InvalidPlace : C_InvalidPlace ≠ D)
    (a_InvalidStandings : PySem.W.nsIn K mainGlobals "InvalidStandings" = some (some (.ref C_InvalidStandings)))
    (x_InvalidStandings : K.lookup C_InvalidStandings = some (excClassObj nm_InvalidStandings q_InvalidStandings C_InvalidStandings N_InvalidStandings bs_InvalidStandings (.ref D :: PySem.WrX.veTail) true sn_InvalidStandings su_InvalidStandings ab_InvalidStandings col_InvalidStandings dd_InvalidStandings u0_InvalidStandings u1_InvalidStandings u2_InvalidStandings u3_InvalidStandings u5_InvalidStandings "ValueError.__new__"))
    (b_InvalidStandings : Hd.clsB K C_InvalidStandings fI ["given"] = true)
    (ne_InvalidStandings : C_InvalidStandings ≠ D)
    (a_InvalidBook : PySem.W.nsIn K mainGlobals "InvalidBook" = some (some (.ref C_InvalidBook)))
    (x_InvalidBook : K.lookup C_InvalidBook = some (excClassObj nm_InvalidBook q_InvalidBook C_InvalidBook N_InvalidBook bs_InvalidBook (.ref D :: PySem.WrX.veTail) true sn_InvalidBook su_InvalidBook ab_InvalidBook col_InvalidBook dd_InvalidBook u0_InvalidBook u1_InvalidBook u2_InvalidBook u3_InvalidBook u5_InvalidBook "ValueError.__new__"))
    (b_InvalidBook : Hd.clsB K C_InvalidBook fI ["given"] = true)
    (ne_InvalidBook : C_InvalidBook ≠ D)
    (a_InvalidText : PySem.W.nsIn K mainGlobals "InvalidText" = some (some (.ref C_InvalidText)))
    (x_InvalidText : K.lookup C_InvalidText = some (excClassObj nm_InvalidText q_InvalidText C_InvalidText N_InvalidText bs_InvalidText (.ref D :: PySem.WrX.veTail) true sn_InvalidText su_InvalidText ab_InvalidText col_InvalidText dd_InvalidText u0_InvalidText u1_InvalidText u2_InvalidText u3_InvalidText u5_InvalidText "ValueError.__new__"))
    (b_InvalidText : Hd.clsB K C_InvalidText fI ["given"] = true)
    (ne_InvalidText : C_InvalidText ≠ D)
    (a_InvalidCounts : PySem.W.nsIn K mainGlobals "InvalidCounts" = some (some (.ref C_InvalidCounts)))
    (x_InvalidCounts : K.lookup C_InvalidCounts = some (excClassObj nm_InvalidCounts q_InvalidCounts C_InvalidCounts N_InvalidCounts bs_InvalidCounts (.ref D :: PySem.WrX.veTail) true sn_InvalidCounts su_InvalidCounts ab_InvalidCounts col_InvalidCounts dd_InvalidCounts u0_InvalidCounts u1_InvalidCounts u2_InvalidCounts u3_InvalidCounts u5_InvalidCounts "ValueError.__new__"))
    (b_InvalidCounts : Hd.clsB K C_InvalidCounts fI ["given"] = true)
    (ne_InvalidCounts : C_InvalidCounts ≠ D)
    (a_InvalidRules : PySem.W.nsIn K mainGlobals "InvalidRules" = some (some (.ref C_InvalidRules)))
    (x_InvalidRules : K.lookup C_InvalidRules = some (excClassObj nm_InvalidRules q_InvalidRules C_InvalidRules N_InvalidRules bs_InvalidRules (.ref D :: PySem.WrX.veTail) true sn_InvalidRules su_InvalidRules ab_InvalidRules col_InvalidRules dd_InvalidRules u0_InvalidRules u1_InvalidRules u2_InvalidRules u3_InvalidRules u5_InvalidRules "ValueError.__new__"))
    (b_InvalidRules : Hd.clsB K C_InvalidRules fI ["given"] = true)
    (ne_InvalidRules : C_InvalidRules ≠ D)
    (a_InvalidEnds : PySem.W.nsIn K mainGlobals "InvalidEnds" = some (some (.ref C_InvalidEnds)))
    (x_InvalidEnds : K.lookup C_InvalidEnds = some (excClassObj nm_InvalidEnds q_InvalidEnds C_InvalidEnds N_InvalidEnds bs_InvalidEnds (.ref D :: PySem.WrX.veTail) true sn_InvalidEnds su_InvalidEnds ab_InvalidEnds col_InvalidEnds dd_InvalidEnds u0_InvalidEnds u1_InvalidEnds u2_InvalidEnds u3_InvalidEnds u5_InvalidEnds "ValueError.__new__"))
    (b_InvalidEnds : Hd.clsB K C_InvalidEnds fI ["given"] = true)
    (ne_InvalidEnds : C_InvalidEnds ≠ D)
    (a_InvalidProgram : PySem.W.nsIn K mainGlobals "InvalidProgram" = some (some (.ref C_InvalidProgram)))
    (x_InvalidProgram : K.lookup C_InvalidProgram = some (excClassObj nm_InvalidProgram q_InvalidProgram C_InvalidProgram N_InvalidProgram bs_InvalidProgram (.ref D :: PySem.WrX.veTail) true sn_InvalidProgram su_InvalidProgram ab_InvalidProgram col_InvalidProgram dd_InvalidProgram u0_InvalidProgram u1_InvalidProgram u2_InvalidProgram u3_InvalidProgram u5_InvalidProgram "ValueError.__new__"))
    (b_InvalidProgram : Hd.clsB K C_InvalidProgram fI ["given"] = true)
    (ne_InvalidProgram : C_InvalidProgram ≠ D)
    (a_InvalidOther : PySem.W.nsIn K mainGlobals "InvalidOther" = some (some (.ref C_InvalidOther)))
    (x_InvalidOther : K.lookup C_InvalidOther = some (excClassObj nm_InvalidOther q_InvalidOther C_InvalidOther N_InvalidOther bs_InvalidOther (.ref D :: PySem.WrX.veTail) true sn_InvalidOther su_InvalidOther ab_InvalidOther col_InvalidOther dd_InvalidOther u0_InvalidOther u1_InvalidOther u2_InvalidOther u3_InvalidOther u5_InvalidOther "ValueError.__new__"))
    (b_InvalidOther : Hd.clsB K C_InvalidOther fI ["given"] = true)
    (ne_InvalidOther : C_InvalidOther ≠ D)
    (a_InvalidStanding : PySem.W.nsIn K mainGlobals "InvalidStanding" = some (some (.ref C_InvalidStanding)))
    (x_InvalidStanding : K.lookup C_InvalidStanding = some (excClassObj nm_InvalidStanding q_InvalidStanding C_InvalidStanding N_InvalidStanding bs_InvalidStanding (.ref D :: PySem.WrX.veTail) true sn_InvalidStanding su_InvalidStanding ab_InvalidStanding col_InvalidStanding dd_InvalidStanding u0_InvalidStanding u1_InvalidStanding u2_InvalidStanding u3_InvalidStanding u5_InvalidStanding "ValueError.__new__"))
    (b_InvalidStanding : Hd.clsB K C_InvalidStanding fI ["given"] = true)
    (ne_InvalidStanding : C_InvalidStanding ≠ D)
    (a_InvalidLadder : PySem.W.nsIn K mainGlobals "InvalidLadder" = some (some (.ref C_InvalidLadder)))
    (x_InvalidLadder : K.lookup C_InvalidLadder = some (excClassObj nm_InvalidLadder q_InvalidLadder C_InvalidLadder N_InvalidLadder bs_InvalidLadder (.ref D :: PySem.WrX.veTail) true sn_InvalidLadder su_InvalidLadder ab_InvalidLadder col_InvalidLadder dd_InvalidLadder u0_InvalidLadder u1_InvalidLadder u2_InvalidLadder u3_InvalidLadder u5_InvalidLadder "ValueError.__new__"))
    (b_InvalidLadder : Hd.clsB K C_InvalidLadder fI ["given"] = true)
    (ne_InvalidLadder : C_InvalidLadder ≠ D)
    (a_InvalidCode : PySem.W.nsIn K mainGlobals "InvalidCode" = some (some (.ref C_InvalidCode)))
    (x_InvalidCode : K.lookup C_InvalidCode = some (excClassObj nm_InvalidCode q_InvalidCode C_InvalidCode N_InvalidCode bs_InvalidCode (.ref D :: PySem.WrX.veTail) true sn_InvalidCode su_InvalidCode ab_InvalidCode col_InvalidCode dd_InvalidCode u0_InvalidCode u1_InvalidCode u2_InvalidCode u3_InvalidCode u5_InvalidCode "ValueError.__new__"))
    (b_InvalidCode : Hd.clsB K C_InvalidCode fI ["given"] = true)
    (ne_InvalidCode : C_InvalidCode ≠ D)
    (a_InvalidAnswers : PySem.W.nsIn K mainGlobals "InvalidAnswers" = some (some (.ref C_InvalidAnswers)))
    (x_InvalidAnswers : K.lookup C_InvalidAnswers = some (excClassObj nm_InvalidAnswers q_InvalidAnswers C_InvalidAnswers N_InvalidAnswers bs_InvalidAnswers (.ref D :: PySem.WrX.veTail) true sn_InvalidAnswers su_InvalidAnswers ab_InvalidAnswers col_InvalidAnswers dd_InvalidAnswers u0_InvalidAnswers u1_InvalidAnswers u2_InvalidAnswers u3_InvalidAnswers u5_InvalidAnswers "ValueError.__new__"))
    (b_InvalidAnswers : Hd.clsB K C_InvalidAnswers fI ["given"] = true)
    (ne_InvalidAnswers : C_InvalidAnswers ≠ D)
    (a_InvalidClaim : PySem.W.nsIn K mainGlobals "InvalidClaim" = some (some (.ref C_InvalidClaim)))
    (x_InvalidClaim : K.lookup C_InvalidClaim = some (excClassObj nm_InvalidClaim q_InvalidClaim C_InvalidClaim N_InvalidClaim bs_InvalidClaim (.ref D :: PySem.WrX.veTail) true sn_InvalidClaim su_InvalidClaim ab_InvalidClaim col_InvalidClaim dd_InvalidClaim u0_InvalidClaim u1_InvalidClaim u2_InvalidClaim u3_InvalidClaim u5_InvalidClaim "ValueError.__new__"))
    (b_InvalidClaim : Hd.clsB K C_InvalidClaim fI ["given"] = true)
    (ne_InvalidClaim : C_InvalidClaim ≠ D)
    (a_TooMany : PySem.W.nsIn K mainGlobals "TooMany" = some (some (.ref C_TooMany)))
    (x_TooMany : K.lookup C_TooMany = some (excClassObj nm_TooMany q_TooMany C_TooMany N_TooMany bs_TooMany (.ref D :: PySem.WrX.veTail) true sn_TooMany su_TooMany ab_TooMany col_TooMany dd_TooMany u0_TooMany u1_TooMany u2_TooMany u3_TooMany u5_TooMany "ValueError.__new__"))
    (i_TooMany : PySem.W.findIn K (.ref C_TooMany) "__init__" = some (some (.ref J_TooMany)))
    (lJ_TooMany : K.lookup J_TooMany = some ⟨jOc_TooMany, jod_TooMany, .func (PySem.W.ksFn "__init__" "TooMany.__init__" (PySem.WrX.F_count.jA ja1_TooMany ja2_TooMany) (PySem.WrX.F_count.jB jb1_TooMany jb2_TooMany jb3_TooMany jb4_TooMany jb5_TooMany jb6_TooMany jb7_TooMany jb8_TooMany jb9_TooMany jb10_TooMany) PySem.WrX.F_count.jS .none jkV_TooMany jdoc_TooMany jpm_TooMany jan_TooMany (.ref Jcd_TooMany) jct_TooMany Jcc_TooMany), josl_TooMany⟩)
    (cJ_TooMany : PySem.W.codeIn K (.ref Jcd_TooMany) "TooMany.__init__" = true)
    (lcdJ_TooMany : K.lookup Jcd_TooMany = some ⟨jccl_TooMany, jcdd_TooMany, .fields jvs_TooMany, jccs_TooMany⟩)
    (hvsJ_TooMany : jvs_TooMany[2]? = some (.str jfile_TooMany jtf_TooMany))
    (hfileJ_TooMany : ((P.main.file : Str) == jfile_TooMany) = true)
    (lccJ_TooMany : K.lookup Jcc_TooMany = some ⟨jcl_TooMany, jcld_TooMany, .cell (some (.ref C_TooMany)), jcsl_TooMany⟩)
    (hlineJ_TooMany : (jb3_TooMany.endLine == jb5_TooMany.line) = true)
    (b_TooMany : Hd.clsB K C_TooMany J_TooMany ["count"] = true)
    (ne_TooMany : C_TooMany ≠ D)
    (a_Unread : PySem.W.nsIn K mainGlobals "Unread" = some (some (.ref C_Unread)))
    (x_Unread : K.lookup C_Unread = some (excClassObj nm_Unread q_Unread C_Unread N_Unread bs_Unread (.ref D :: PySem.WrX.veTail) true sn_Unread su_Unread ab_Unread col_Unread dd_Unread u0_Unread u1_Unread u2_Unread u3_Unread u5_Unread "ValueError.__new__"))
    (i_Unread : PySem.W.findIn K (.ref C_Unread) "__init__" = some (some (.ref J_Unread)))
    (lJ_Unread : K.lookup J_Unread = some ⟨jOc_Unread, jod_Unread, .func (PySem.W.ksFn "__init__" "Unread.__init__" (PySem.WrX.F_line.jA ja1_Unread ja2_Unread) (PySem.WrX.F_line.jB jb1_Unread jb2_Unread jb3_Unread jb4_Unread jb5_Unread jb6_Unread jb7_Unread jb8_Unread jb9_Unread jb10_Unread) PySem.WrX.F_line.jS .none jkV_Unread jdoc_Unread jpm_Unread jan_Unread (.ref Jcd_Unread) jct_Unread Jcc_Unread), josl_Unread⟩)
    (cJ_Unread : PySem.W.codeIn K (.ref Jcd_Unread) "Unread.__init__" = true)
    (lcdJ_Unread : K.lookup Jcd_Unread = some ⟨jccl_Unread, jcdd_Unread, .fields jvs_Unread, jccs_Unread⟩)
    (hvsJ_Unread : jvs_Unread[2]? = some (.str jfile_Unread jtf_Unread))
    (hfileJ_Unread : ((P.main.file : Str) == jfile_Unread) = true)
    (lccJ_Unread : K.lookup Jcc_Unread = some ⟨jcl_Unread, jcld_Unread, .cell (some (.ref C_Unread)), jcsl_Unread⟩)
    (hlineJ_Unread : (jb3_Unread.endLine == jb5_Unread.line) = true)
    (b_Unread : Hd.clsB K C_Unread J_Unread ["line"] = true)
    (ne_Unread : C_Unread ≠ D)
    (a_NotWhole : PySem.W.nsIn K mainGlobals "NotWhole" = some (some (.ref C_NotWhole)))
    (x_NotWhole : K.lookup C_NotWhole = some (excClassObj nm_NotWhole q_NotWhole C_NotWhole N_NotWhole bs_NotWhole (.ref D :: PySem.WrX.veTail) true sn_NotWhole su_NotWhole ab_NotWhole col_NotWhole dd_NotWhole u0_NotWhole u1_NotWhole u2_NotWhole u3_NotWhole u5_NotWhole "ValueError.__new__"))
    (i_NotWhole : PySem.W.findIn K (.ref C_NotWhole) "__init__" = some (some (.ref J_NotWhole)))
    (lJ_NotWhole : K.lookup J_NotWhole = some ⟨jOc_NotWhole, jod_NotWhole, .func (PySem.W.ksFn "__init__" "NotWhole.__init__" (PySem.WrX.F_tree.jA ja1_NotWhole ja2_NotWhole) (PySem.WrX.F_tree.jB jb1_NotWhole jb2_NotWhole jb3_NotWhole jb4_NotWhole jb5_NotWhole jb6_NotWhole jb7_NotWhole jb8_NotWhole jb9_NotWhole jb10_NotWhole) PySem.WrX.F_tree.jS .none jkV_NotWhole jdoc_NotWhole jpm_NotWhole jan_NotWhole (.ref Jcd_NotWhole) jct_NotWhole Jcc_NotWhole), josl_NotWhole⟩)
    (cJ_NotWhole : PySem.W.codeIn K (.ref Jcd_NotWhole) "NotWhole.__init__" = true)
    (lcdJ_NotWhole : K.lookup Jcd_NotWhole = some ⟨jccl_NotWhole, jcdd_NotWhole, .fields jvs_NotWhole, jccs_NotWhole⟩)
    (hvsJ_NotWhole : jvs_NotWhole[2]? = some (.str jfile_NotWhole jtf_NotWhole))
    (hfileJ_NotWhole : ((P.main.file : Str) == jfile_NotWhole) = true)
    (lccJ_NotWhole : K.lookup Jcc_NotWhole = some ⟨jcl_NotWhole, jcld_NotWhole, .cell (some (.ref C_NotWhole)), jcsl_NotWhole⟩)
    (hlineJ_NotWhole : (jb3_NotWhole.endLine == jb5_NotWhole.line) = true)
    (b_NotWhole : Hd.clsB K C_NotWhole J_NotWhole ["tree"] = true)
    (ne_NotWhole : C_NotWhole ≠ D)
    (a_Rest : PySem.W.nsIn K mainGlobals "Rest" = some (some (.ref C_Rest)))
    (x_Rest : K.lookup C_Rest = some (excClassObj nm_Rest q_Rest C_Rest N_Rest bs_Rest (.ref D :: PySem.WrX.veTail) true sn_Rest su_Rest ab_Rest col_Rest dd_Rest u0_Rest u1_Rest u2_Rest u3_Rest u5_Rest "ValueError.__new__"))
    (i_Rest : PySem.W.findIn K (.ref C_Rest) "__init__" = some (some (.ref J_Rest)))
    (lJ_Rest : K.lookup J_Rest = some ⟨jOc_Rest, jod_Rest, .func (PySem.W.ksFn "__init__" "Rest.__init__" (PySem.WrX.F_tree.jA ja1_Rest ja2_Rest) (PySem.WrX.F_tree.jB jb1_Rest jb2_Rest jb3_Rest jb4_Rest jb5_Rest jb6_Rest jb7_Rest jb8_Rest jb9_Rest jb10_Rest) PySem.WrX.F_tree.jS .none jkV_Rest jdoc_Rest jpm_Rest jan_Rest (.ref Jcd_Rest) jct_Rest Jcc_Rest), josl_Rest⟩)
    (cJ_Rest : PySem.W.codeIn K (.ref Jcd_Rest) "Rest.__init__" = true)
    (lcdJ_Rest : K.lookup Jcd_Rest = some ⟨jccl_Rest, jcdd_Rest, .fields jvs_Rest, jccs_Rest⟩)
    (hvsJ_Rest : jvs_Rest[2]? = some (.str jfile_Rest jtf_Rest))
    (hfileJ_Rest : ((P.main.file : Str) == jfile_Rest) = true)
    (lccJ_Rest : K.lookup Jcc_Rest = some ⟨jcl_Rest, jcld_Rest, .cell (some (.ref C_Rest)), jcsl_Rest⟩)
    (hlineJ_Rest : (jb3_Rest.endLine == jb5_Rest.line) = true)
    (b_Rest : Hd.clsB K C_Rest J_Rest ["tree"] = true)
    (ne_Rest : C_Rest ≠ D)
    (a_Apart : PySem.W.nsIn K mainGlobals "Apart" = some (some (.ref C_Apart)))
    (x_Apart : K.lookup C_Apart = some (excClassObj nm_Apart q_Apart C_Apart N_Apart bs_Apart (.ref D :: PySem.WrX.veTail) true sn_Apart su_Apart ab_Apart col_Apart dd_Apart u0_Apart u1_Apart u2_Apart u3_Apart u5_Apart "ValueError.__new__"))
    (i_Apart : PySem.W.findIn K (.ref C_Apart) "__init__" = some (some (.ref J_Apart)))
    (lJ_Apart : K.lookup J_Apart = some ⟨jOc_Apart, jod_Apart, .func (PySem.W.ksFn "__init__" "Apart.__init__" (PySem.WrX.F_tree.jA ja1_Apart ja2_Apart) (PySem.WrX.F_tree.jB jb1_Apart jb2_Apart jb3_Apart jb4_Apart jb5_Apart jb6_Apart jb7_Apart jb8_Apart jb9_Apart jb10_Apart) PySem.WrX.F_tree.jS .none jkV_Apart jdoc_Apart jpm_Apart jan_Apart (.ref Jcd_Apart) jct_Apart Jcc_Apart), josl_Apart⟩)
    (cJ_Apart : PySem.W.codeIn K (.ref Jcd_Apart) "Apart.__init__" = true)
    (lcdJ_Apart : K.lookup Jcd_Apart = some ⟨jccl_Apart, jcdd_Apart, .fields jvs_Apart, jccs_Apart⟩)
    (hvsJ_Apart : jvs_Apart[2]? = some (.str jfile_Apart jtf_Apart))
    (hfileJ_Apart : ((P.main.file : Str) == jfile_Apart) = true)
    (lccJ_Apart : K.lookup Jcc_Apart = some ⟨jcl_Apart, jcld_Apart, .cell (some (.ref C_Apart)), jcsl_Apart⟩)
    (hlineJ_Apart : (jb3_Apart.endLine == jb5_Apart.line) = true)
    (b_Apart : Hd.clsB K C_Apart J_Apart ["tree"] = true)
    (ne_Apart : C_Apart ≠ D)
    (a_Growing : PySem.W.nsIn K mainGlobals "Growing" = some (some (.ref C_Growing)))
    (x_Growing : K.lookup C_Growing = some (excClassObj nm_Growing q_Growing C_Growing N_Growing bs_Growing (.ref D :: PySem.WrX.veTail) true sn_Growing su_Growing ab_Growing col_Growing dd_Growing u0_Growing u1_Growing u2_Growing u3_Growing u5_Growing "ValueError.__new__"))
    (i_Growing : PySem.W.findIn K (.ref C_Growing) "__init__" = some (some (.ref J_Growing)))
    (lJ_Growing : K.lookup J_Growing = some ⟨jOc_Growing, jod_Growing, .func (PySem.W.ksFn "__init__" "Growing.__init__" (PySem.WrX.F_name.jA ja1_Growing ja2_Growing) (PySem.WrX.F_name.jB jb1_Growing jb2_Growing jb3_Growing jb4_Growing jb5_Growing jb6_Growing jb7_Growing jb8_Growing jb9_Growing jb10_Growing) PySem.WrX.F_name.jS .none jkV_Growing jdoc_Growing jpm_Growing jan_Growing (.ref Jcd_Growing) jct_Growing Jcc_Growing), josl_Growing⟩)
    (cJ_Growing : PySem.W.codeIn K (.ref Jcd_Growing) "Growing.__init__" = true)
    (lcdJ_Growing : K.lookup Jcd_Growing = some ⟨jccl_Growing, jcdd_Growing, .fields jvs_Growing, jccs_Growing⟩)
    (hvsJ_Growing : jvs_Growing[2]? = some (.str jfile_Growing jtf_Growing))
    (hfileJ_Growing : ((P.main.file : Str) == jfile_Growing) = true)
    (lccJ_Growing : K.lookup Jcc_Growing = some ⟨jcl_Growing, jcld_Growing, .cell (some (.ref C_Growing)), jcsl_Growing⟩)
    (hlineJ_Growing : (jb3_Growing.endLine == jb5_Growing.line) = true)
    (b_Growing : Hd.clsB K C_Growing J_Growing ["name"] = true)
    (ne_Growing : C_Growing ≠ D)
    (a_Missing : PySem.W.nsIn K mainGlobals "Missing" = some (some (.ref C_Missing)))
    (x_Missing : K.lookup C_Missing = some (excClassObj nm_Missing q_Missing C_Missing N_Missing bs_Missing (.ref D :: PySem.WrX.veTail) true sn_Missing su_Missing ab_Missing col_Missing dd_Missing u0_Missing u1_Missing u2_Missing u3_Missing u5_Missing "ValueError.__new__"))
    (i_Missing : PySem.W.findIn K (.ref C_Missing) "__init__" = some (some (.ref J_Missing)))
    (lJ_Missing : K.lookup J_Missing = some ⟨jOc_Missing, jod_Missing, .func (PySem.W.ksFn "__init__" "Missing.__init__" (PySem.WrX.F_name.jA ja1_Missing ja2_Missing) (PySem.WrX.F_name.jB jb1_Missing jb2_Missing jb3_Missing jb4_Missing jb5_Missing jb6_Missing jb7_Missing jb8_Missing jb9_Missing jb10_Missing) PySem.WrX.F_name.jS .none jkV_Missing jdoc_Missing jpm_Missing jan_Missing (.ref Jcd_Missing) jct_Missing Jcc_Missing), josl_Missing⟩)
    (cJ_Missing : PySem.W.codeIn K (.ref Jcd_Missing) "Missing.__init__" = true)
    (lcdJ_Missing : K.lookup Jcd_Missing = some ⟨jccl_Missing, jcdd_Missing, .fields jvs_Missing, jccs_Missing⟩)
    (hvsJ_Missing : jvs_Missing[2]? = some (.str jfile_Missing jtf_Missing))
    (hfileJ_Missing : ((P.main.file : Str) == jfile_Missing) = true)
    (lccJ_Missing : K.lookup Jcc_Missing = some ⟨jcl_Missing, jcld_Missing, .cell (some (.ref C_Missing)), jcsl_Missing⟩)
    (hlineJ_Missing : (jb3_Missing.endLine == jb5_Missing.line) = true)
    (b_Missing : Hd.clsB K C_Missing J_Missing ["name"] = true)
    (ne_Missing : C_Missing ≠ D)
    (a_Taken : PySem.W.nsIn K mainGlobals "Taken" = some (some (.ref C_Taken)))
    (x_Taken : K.lookup C_Taken = some (excClassObj nm_Taken q_Taken C_Taken N_Taken bs_Taken (.ref D :: PySem.WrX.veTail) true sn_Taken su_Taken ab_Taken col_Taken dd_Taken u0_Taken u1_Taken u2_Taken u3_Taken u5_Taken "ValueError.__new__"))
    (i_Taken : PySem.W.findIn K (.ref C_Taken) "__init__" = some (some (.ref J_Taken)))
    (lJ_Taken : K.lookup J_Taken = some ⟨jOc_Taken, jod_Taken, .func (PySem.W.ksFn "__init__" "Taken.__init__" (PySem.WrX.F_name.jA ja1_Taken ja2_Taken) (PySem.WrX.F_name.jB jb1_Taken jb2_Taken jb3_Taken jb4_Taken jb5_Taken jb6_Taken jb7_Taken jb8_Taken jb9_Taken jb10_Taken) PySem.WrX.F_name.jS .none jkV_Taken jdoc_Taken jpm_Taken jan_Taken (.ref Jcd_Taken) jct_Taken Jcc_Taken), josl_Taken⟩)
    (cJ_Taken : PySem.W.codeIn K (.ref Jcd_Taken) "Taken.__init__" = true)
    (lcdJ_Taken : K.lookup Jcd_Taken = some ⟨jccl_Taken, jcdd_Taken, .fields jvs_Taken, jccs_Taken⟩)
    (hvsJ_Taken : jvs_Taken[2]? = some (.str jfile_Taken jtf_Taken))
    (hfileJ_Taken : ((P.main.file : Str) == jfile_Taken) = true)
    (lccJ_Taken : K.lookup Jcc_Taken = some ⟨jcl_Taken, jcld_Taken, .cell (some (.ref C_Taken)), jcsl_Taken⟩)
    (hlineJ_Taken : (jb3_Taken.endLine == jb5_Taken.line) = true)
    (b_Taken : Hd.clsB K C_Taken J_Taken ["name"] = true)
    (ne_Taken : C_Taken ≠ D)
    (a_InUse : PySem.W.nsIn K mainGlobals "InUse" = some (some (.ref C_InUse)))
    (x_InUse : K.lookup C_InUse = some (excClassObj nm_InUse q_InUse C_InUse N_InUse bs_InUse (.ref D :: PySem.WrX.veTail) true sn_InUse su_InUse ab_InUse col_InUse dd_InUse u0_InUse u1_InUse u2_InUse u3_InUse u5_InUse "ValueError.__new__"))
    (i_InUse : PySem.W.findIn K (.ref C_InUse) "__init__" = some (some (.ref J_InUse)))
    (lJ_InUse : K.lookup J_InUse = some ⟨jOc_InUse, jod_InUse, .func (PySem.W.ksFn "__init__" "InUse.__init__" (PySem.WrX.F_name.jA ja1_InUse ja2_InUse) (PySem.WrX.F_name.jB jb1_InUse jb2_InUse jb3_InUse jb4_InUse jb5_InUse jb6_InUse jb7_InUse jb8_InUse jb9_InUse jb10_InUse) PySem.WrX.F_name.jS .none jkV_InUse jdoc_InUse jpm_InUse jan_InUse (.ref Jcd_InUse) jct_InUse Jcc_InUse), josl_InUse⟩)
    (cJ_InUse : PySem.W.codeIn K (.ref Jcd_InUse) "InUse.__init__" = true)
    (lcdJ_InUse : K.lookup Jcd_InUse = some ⟨jccl_InUse, jcdd_InUse, .fields jvs_InUse, jccs_InUse⟩)
    (hvsJ_InUse : jvs_InUse[2]? = some (.str jfile_InUse jtf_InUse))
    (hfileJ_InUse : ((P.main.file : Str) == jfile_InUse) = true)
    (lccJ_InUse : K.lookup Jcc_InUse = some ⟨jcl_InUse, jcld_InUse, .cell (some (.ref C_InUse)), jcsl_InUse⟩)
    (hlineJ_InUse : (jb3_InUse.endLine == jb5_InUse.line) = true)
    (b_InUse : Hd.clsB K C_InUse J_InUse ["name"] = true)
    (ne_InUse : C_InUse ≠ D)
    (a_Unlike : PySem.W.nsIn K mainGlobals "Unlike" = some (some (.ref C_Unlike)))
    (x_Unlike : K.lookup C_Unlike = some (excClassObj nm_Unlike q_Unlike C_Unlike N_Unlike bs_Unlike (.ref D :: PySem.WrX.veTail) true sn_Unlike su_Unlike ab_Unlike col_Unlike dd_Unlike u0_Unlike u1_Unlike u2_Unlike u3_Unlike u5_Unlike "ValueError.__new__"))
    (i_Unlike : PySem.W.findIn K (.ref C_Unlike) "__init__" = some (some (.ref J_Unlike)))
    (lJ_Unlike : K.lookup J_Unlike = some ⟨jOc_Unlike, jod_Unlike, .func (PySem.W.ksFn "__init__" "Unlike.__init__" (PySem.WrX.F_two.jA ja1_Unlike ja2_Unlike ja3_Unlike) (PySem.WrX.F_two.jB jb1_Unlike jb2_Unlike jb3_Unlike jb4_Unlike jb5_Unlike jb6_Unlike jb7_Unlike jb8_Unlike jb9_Unlike jb10_Unlike jb11_Unlike jb12_Unlike jb13_Unlike jb14_Unlike jb15_Unlike jb16_Unlike) PySem.WrX.F_two.jS .none jkV_Unlike jdoc_Unlike jpm_Unlike jan_Unlike (.ref Jcd_Unlike) jct_Unlike Jcc_Unlike), josl_Unlike⟩)
    (cJ_Unlike : PySem.W.codeIn K (.ref Jcd_Unlike) "Unlike.__init__" = true)
    (lcdJ_Unlike : K.lookup Jcd_Unlike = some ⟨jccl_Unlike, jcdd_Unlike, .fields jvs_Unlike, jccs_Unlike⟩)
    (hvsJ_Unlike : jvs_Unlike[2]? = some (.str jfile_Unlike jtf_Unlike))
    (hfileJ_Unlike : ((P.main.file : Str) == jfile_Unlike) = true)
    (lccJ_Unlike : K.lookup Jcc_Unlike = some ⟨jcl_Unlike, jcld_Unlike, .cell (some (.ref C_Unlike)), jcsl_Unlike⟩)
    (hlineJ_Unlike : (jb3_Unlike.endLine == jb5_Unlike.line) = true)
    (b_Unlike : Hd.clsB K C_Unlike J_Unlike ["one", "other"] = true)
    (ne_Unlike : C_Unlike ≠ D)
    (a_NothingToUndo : PySem.W.nsIn K mainGlobals "NothingToUndo" = some (some (.ref C_NothingToUndo)))
    (x_NothingToUndo : K.lookup C_NothingToUndo = some (excClassObj nm_NothingToUndo q_NothingToUndo C_NothingToUndo N_NothingToUndo bs_NothingToUndo (.ref D :: PySem.WrX.veTail) true sn_NothingToUndo su_NothingToUndo ab_NothingToUndo col_NothingToUndo dd_NothingToUndo u0_NothingToUndo u1_NothingToUndo u2_NothingToUndo u3_NothingToUndo u5_NothingToUndo "ValueError.__new__"))
    (i_NothingToUndo : PySem.W.findIn K (.ref C_NothingToUndo) "__init__" = some (some (.ref J_NothingToUndo)))
    (lJ_NothingToUndo : K.lookup J_NothingToUndo = some ⟨jOc_NothingToUndo, jod_NothingToUndo, .func (PySem.W.fnOf "__init__" "NothingToUndo.__init__" (PySem.WrX.F_none.jA ja1_NothingToUndo) (PySem.WrX.F_none.jB jb7_NothingToUndo jb8_NothingToUndo jb9_NothingToUndo jb10_NothingToUndo) PySem.WrX.F_none.jS .none jkV_NothingToUndo jdoc_NothingToUndo jpm_NothingToUndo jan_NothingToUndo (.ref Jcd_NothingToUndo) jct_NothingToUndo), josl_NothingToUndo⟩)
    (cJ_NothingToUndo : PySem.W.codeIn K (.ref Jcd_NothingToUndo) "NothingToUndo.__init__" = true)
    (b_NothingToUndo : Hd.clsB K C_NothingToUndo J_NothingToUndo [] = true)
    (ne_NothingToUndo : C_NothingToUndo ≠ D)
    (a_NothingToRedo : PySem.W.nsIn K mainGlobals "NothingToRedo" = some (some (.ref C_NothingToRedo)))
    (x_NothingToRedo : K.lookup C_NothingToRedo = some (excClassObj nm_NothingToRedo q_NothingToRedo C_NothingToRedo N_NothingToRedo bs_NothingToRedo (.ref D :: PySem.WrX.veTail) true sn_NothingToRedo su_NothingToRedo ab_NothingToRedo col_NothingToRedo dd_NothingToRedo u0_NothingToRedo u1_NothingToRedo u2_NothingToRedo u3_NothingToRedo u5_NothingToRedo "ValueError.__new__"))
    (i_NothingToRedo : PySem.W.findIn K (.ref C_NothingToRedo) "__init__" = some (some (.ref J_NothingToRedo)))
    (lJ_NothingToRedo : K.lookup J_NothingToRedo = some ⟨jOc_NothingToRedo, jod_NothingToRedo, .func (PySem.W.fnOf "__init__" "NothingToRedo.__init__" (PySem.WrX.F_none.jA ja1_NothingToRedo) (PySem.WrX.F_none.jB jb7_NothingToRedo jb8_NothingToRedo jb9_NothingToRedo jb10_NothingToRedo) PySem.WrX.F_none.jS .none jkV_NothingToRedo jdoc_NothingToRedo jpm_NothingToRedo jan_NothingToRedo (.ref Jcd_NothingToRedo) jct_NothingToRedo), josl_NothingToRedo⟩)
    (cJ_NothingToRedo : PySem.W.codeIn K (.ref Jcd_NothingToRedo) "NothingToRedo.__init__" = true)
    (b_NothingToRedo : Hd.clsB K C_NothingToRedo J_NothingToRedo [] = true)
    (ne_NothingToRedo : C_NothingToRedo ≠ D)
    (nd_ : List.Nodup [C_InvalidNumber, C_InvalidNumbers, C_InvalidModulus, C_InvalidPrime, C_InvalidRests, C_InvalidBound, C_InvalidCount, C_InvalidWidth, C_InvalidLine, C_InvalidLines, C_InvalidLattice, C_InvalidTable, C_InvalidGoal, C_InvalidPolynomial, C_InvalidDegrees, C_InvalidItem, C_InvalidItems, C_InvalidNodes, C_InvalidKinds, C_InvalidName, C_InvalidTree, C_InvalidContext, C_InvalidPattern, C_InvalidPlace, C_InvalidStandings, C_InvalidBook, C_InvalidText, C_InvalidCounts, C_InvalidRules, C_InvalidEnds, C_InvalidProgram, C_InvalidOther, C_InvalidStanding, C_InvalidLadder, C_InvalidCode, C_InvalidAnswers, C_InvalidClaim, C_TooMany, C_Unread, C_NotWhole, C_Rest, C_Apart, C_Growing, C_Missing, C_Taken, C_InUse, C_Unlike, C_NothingToUndo, C_NothingToRedo]) :
    ∃ fd : FuncData, (∀ (s : Shared) (v : Value), BindsTo s fd ⟨[v], []⟩ [("script", v)]) ∧ ∀ base : Heap, K.In base → base.Ns mainGlobals mg → FnOk P w K mg base (L2.CX P w) 16 fa fd ["script"] (sp_law K) := by
  have e := hfa.symm.trans (PySem.W.mg_of X G a_law)
  cases e
  have F_law_box := fun_mk (st := s_law_box) l_law_box c_law_box k_law_box
  have b_law_box := F_law_box.binds (ps := ["great"]) fun _ _ _ _ _ _ us hl => match us, hl with | [_], _ => rfl
  have F_law_take := fun_mk (st := s_law_take) l_law_take c_law_take k_law_take
  have b_law_take := F_law_take.binds (ps := ["box", "many"]) fun _ _ _ _ _ _ us hl => match us, hl with | [_, _], _ => rfl
  have F_law_cell := fun_mk (st := s_law_cell) l_law_cell c_law_cell k_law_cell
  have b_law_cell := F_law_cell.binds (ps := ["script", "k"]) fun _ _ _ _ _ _ us hl => match us, hl with | [_, _], _ => rfl
  have F_law_same := fun_mk (st := s_law_same) l_law_same c_law_same k_law_same
  have b_law_same := F_law_same.binds (ps := ["told", "due"]) fun _ _ _ _ _ _ us hl => match us, hl with | [_, _], _ => rfl
  have F_law_mixed := fun_mk (st := s_law_mixed) l_law_mixed c_law_mixed k_law_mixed
  have b_law_mixed := F_law_mixed.binds (ps := ["box", "items"]) fun _ _ _ _ _ _ us hl => match us, hl with | [_, _], _ => rfl
  have F_law_anything := fun_mk (st := s_law_anything) l_law_anything c_law_anything k_law_anything
  have b_law_anything := F_law_anything.binds (ps := ["box"]) fun _ _ _ _ _ _ us hl => match us, hl with | [_], _ => rfl
  have F_law_grown := fun_mk (st := s_law_grown) l_law_grown c_law_grown k_law_grown
  have b_law_grown := F_law_grown.binds (ps := ["value"]) fun _ _ _ _ _ _ us hl => match us, hl with | [_], _ => rfl
  have F_law_still := fun_mk (st := s_law_still) l_law_still c_law_still k_law_still
  have b_law_still := F_law_still.binds (ps := ["told", "due"]) fun _ _ _ _ _ _ us hl => match us, hl with | [_, _], _ => rfl
  have F_law_made_0 := fun_mk (st := s_law_made_0) l_law_made_0 c_law_made_0 k_law_made_0
  have b_law_made_0 := F_law_made_0.binds (ps := ["k", "given", "by_name"]) fun _ _ _ _ _ _ us hl => match us, hl with | [_, _, _], _ => rfl
  have F_law_made_1 := fun_mk (st := s_law_made_1) l_law_made_1 c_law_made_1 k_law_made_1
  have b_law_made_1 := F_law_made_1.binds (ps := ["k", "given", "by_name"]) fun _ _ _ _ _ _ us hl => match us, hl with | [_, _, _], _ => rfl
  have F_law_classes := fun_mk (st := s_law_classes) l_law_classes c_law_classes k_law_classes
  have b_law_classes := F_law_classes.binds (ps := ["error"]) fun _ _ _ _ _ _ us hl => match us, hl with | [_], _ => rfl
  have F_law_read := fun_mk (st := s_law_read) l_law_read c_law_read k_law_read
  have b_law_read := F_law_read.binds (ps := ["k", "error"]) fun _ _ _ _ _ _ us hl => match us, hl with | [_, _], _ => rfl
  have F_law_raise := fun_mk (st := s_law_raise) l_law_raise c_law_raise k_law_raise
  have b_law_raise := F_law_raise.binds (ps := ["k", "value"]) fun _ _ _ _ _ _ us hl => match us, hl with | [_, _], _ => rfl
  have F_law_raised := fun_mk (st := s_law_raised) l_law_raised c_law_raised k_law_raised
  have b_law_raised := F_law_raised.binds (ps := ["k", "value"]) fun _ _ _ _ _ _ us hl => match us, hl with | [_, _], _ => rfl
  have F_law_class_right := fun_mk (st := s_law_class_right) l_law_class_right c_law_class_right k_law_class_right
  have b_law_class_right := F_law_class_right.binds (ps := ["box", "k", "by_name"]) fun _ _ _ _ _ _ us hl => match us, hl with | [_, _, _], _ => rfl
  have F_law := fun_mk (st := s_law) l_law c_law k_law
  have b_law := F_law.binds (ps := ["script"]) fun _ _ _ _ _ _ us hl => match us, hl with | [_], _ => rfl
  have BT : PySem.WrX.BaseTxt P K mg D fI := ⟨⟨_, _, Td, _, _, _, _, cda, cc, _, _, _, _, _, _, _, _, _, _, _, _, _, _, _, _, _, _, _, vs, _, _, file, tf, _, _, nT, _, lI, cI, lcd, hvs, hfile, lcc, lT, hline⟩, ⟨_, by unfold PySem.W.clsIn; rw [xW] <;> rfl⟩, PySem.W.mg_none_of X G mS, top_, any_⟩
  obtain ⟨iD, _, mD, tD⟩ := mro_of xW
  have bD : PySem.W.subIn K (.ref D) (.type "BaseException") = some true := by
    show PySem.W.mroIn K D _ = _
    rw [mD]
    simp [PySem.WrX.veTail]
  let cl0 : Nat → Addr := fun k => [C_InvalidNumber, C_InvalidNumbers, C_InvalidModulus, C_InvalidPrime, C_InvalidRests, C_InvalidBound, C_InvalidCount, C_InvalidWidth, C_InvalidLine, C_InvalidLines, C_InvalidLattice, C_InvalidTable, C_InvalidGoal, C_InvalidPolynomial, C_InvalidDegrees, C_InvalidItem, C_InvalidItems, C_InvalidNodes, C_InvalidKinds, C_InvalidName, C_InvalidTree, C_InvalidContext, C_InvalidPattern, C_InvalidPlace, C_InvalidStandings, C_InvalidBook, C_InvalidText, C_InvalidCounts, C_InvalidRules, C_InvalidEnds, C_InvalidProgram, C_InvalidOther, C_InvalidStanding, C_InvalidLadder, C_InvalidCode, C_InvalidAnswers, C_InvalidClaim, C_TooMany, C_Unread, C_NotWhole, C_Rest, C_Apart, C_Growing, C_Missing, C_Taken, C_InUse, C_Unlike, C_NothingToUndo, C_NothingToRedo].getD k 0
  have E_0 := clsF_of (PySem.W.mg_of X G a_InvalidNumber) x_InvalidNumber b_InvalidNumber ne_InvalidNumber sp_ tk_
  have E_1 := clsF_of (PySem.W.mg_of X G a_InvalidNumbers) x_InvalidNumbers b_InvalidNumbers ne_InvalidNumbers sp_ tk_
  have E_2 := clsF_of (PySem.W.mg_of X G a_InvalidModulus) x_InvalidModulus b_InvalidModulus ne_InvalidModulus sp_ tk_
  have E_3 := clsF_of (PySem.W.mg_of X G a_InvalidPrime) x_InvalidPrime b_InvalidPrime ne_InvalidPrime sp_ tk_
  have E_4 := clsF_of (PySem.W.mg_of X G a_InvalidRests) x_InvalidRests b_InvalidRests ne_InvalidRests sp_ tk_
  have E_5 := clsF_of (PySem.W.mg_of X G a_InvalidBound) x_InvalidBound b_InvalidBound ne_InvalidBound sp_ tk_
  have E_6 := clsF_of (PySem.W.mg_of X G a_InvalidCount) x_InvalidCount b_InvalidCount ne_InvalidCount sp_ tk_
  have E_7 := clsF_of (PySem.W.mg_of X G a_InvalidWidth) x_InvalidWidth b_InvalidWidth ne_InvalidWidth sp_ tk_
  have E_8 := clsF_of (PySem.W.mg_of X G a_InvalidLine) x_InvalidLine b_InvalidLine ne_InvalidLine sp_ tk_
  have E_9 := clsF_of (PySem.W.mg_of X G a_InvalidLines) x_InvalidLines b_InvalidLines ne_InvalidLines sp_ tk_
  have E_10 := clsF_of (PySem.W.mg_of X G a_InvalidLattice) x_InvalidLattice b_InvalidLattice ne_InvalidLattice sp_ tk_
  have E_11 := clsF_of (PySem.W.mg_of X G a_InvalidTable) x_InvalidTable b_InvalidTable ne_InvalidTable sp_ tk_
  have E_12 := clsF_of (PySem.W.mg_of X G a_InvalidGoal) x_InvalidGoal b_InvalidGoal ne_InvalidGoal sp_ tk_
  have E_13 := clsF_of (PySem.W.mg_of X G a_InvalidPolynomial) x_InvalidPolynomial b_InvalidPolynomial ne_InvalidPolynomial sp_ tk_
  have E_14 := clsF_of (PySem.W.mg_of X G a_InvalidDegrees) x_InvalidDegrees b_InvalidDegrees ne_InvalidDegrees sp_ tk_
  have E_15 := clsF_of (PySem.W.mg_of X G a_InvalidItem) x_InvalidItem b_InvalidItem ne_InvalidItem sp_ tk_
  have E_16 := clsF_of (PySem.W.mg_of X G a_InvalidItems) x_InvalidItems b_InvalidItems ne_InvalidItems sp_ tk_
  have E_17 := clsF_of (PySem.W.mg_of X G a_InvalidNodes) x_InvalidNodes b_InvalidNodes ne_InvalidNodes sp_ tk_
  have E_18 := clsF_of (PySem.W.mg_of X G a_InvalidKinds) x_InvalidKinds b_InvalidKinds ne_InvalidKinds sp_ tk_
  have E_19 := clsF_of (PySem.W.mg_of X G a_InvalidName) x_InvalidName b_InvalidName ne_InvalidName sp_ tk_
  have E_20 := clsF_of (PySem.W.mg_of X G a_InvalidTree) x_InvalidTree b_InvalidTree ne_InvalidTree sp_ tk_
  have E_21 := clsF_of (PySem.W.mg_of X G a_InvalidContext) x_InvalidContext b_InvalidContext ne_InvalidContext sp_ tk_
  have E_22 := clsF_of (PySem.W.mg_of X G a_InvalidPattern) x_InvalidPattern b_InvalidPattern ne_InvalidPattern sp_ tk_
  have E_23 := clsF_of (PySem.W.mg_of X G a_InvalidPlace) x_InvalidPlace b_InvalidPlace ne_InvalidPlace sp_ tk_
  have E_24 := clsF_of (PySem.W.mg_of X G a_InvalidStandings) x_InvalidStandings b_InvalidStandings ne_InvalidStandings sp_ tk_
  have E_25 := clsF_of (PySem.W.mg_of X G a_InvalidBook) x_InvalidBook b_InvalidBook ne_InvalidBook sp_ tk_
  have E_26 := clsF_of (PySem.W.mg_of X G a_InvalidText) x_InvalidText b_InvalidText ne_InvalidText sp_ tk_
  have E_27 := clsF_of (PySem.W.mg_of X G a_InvalidCounts) x_InvalidCounts b_InvalidCounts ne_InvalidCounts sp_ tk_
  have E_28 := clsF_of (PySem.W.mg_of X G a_InvalidRules) x_InvalidRules b_InvalidRules ne_InvalidRules sp_ tk_
  have E_29 := clsF_of (PySem.W.mg_of X G a_InvalidEnds) x_InvalidEnds b_InvalidEnds ne_InvalidEnds sp_ tk_
  have E_30 := clsF_of (PySem.W.mg_of X G a_InvalidProgram) x_InvalidProgram b_InvalidProgram ne_InvalidProgram sp_ tk_
  have E_31 := clsF_of (PySem.W.mg_of X G a_InvalidOther) x_InvalidOther b_InvalidOther ne_InvalidOther sp_ tk_
  have E_32 := clsF_of (PySem.W.mg_of X G a_InvalidStanding) x_InvalidStanding b_InvalidStanding ne_InvalidStanding sp_ tk_
  have E_33 := clsF_of (PySem.W.mg_of X G a_InvalidLadder) x_InvalidLadder b_InvalidLadder ne_InvalidLadder sp_ tk_
  have E_34 := clsF_of (PySem.W.mg_of X G a_InvalidCode) x_InvalidCode b_InvalidCode ne_InvalidCode sp_ tk_
  have E_35 := clsF_of (PySem.W.mg_of X G a_InvalidAnswers) x_InvalidAnswers b_InvalidAnswers ne_InvalidAnswers sp_ tk_
  have E_36 := clsF_of (PySem.W.mg_of X G a_InvalidClaim) x_InvalidClaim b_InvalidClaim ne_InvalidClaim sp_ tk_
  have E_37 := clsF_of (PySem.W.mg_of X G a_TooMany) x_TooMany b_TooMany ne_TooMany sp_ tk_
  have O_37 : PySem.WrX.F_count.OwnTxt P K "TooMany.__init__" D fI C_TooMany J_TooMany := ⟨⟨_, _, _, _, _, _, _, _, _, _, _, _, _, _, _, _, _, _, _, _, _, _, _, _, _, _, _, _, _, _, _, lJ_TooMany, cJ_TooMany, lcdJ_TooMany, hvsJ_TooMany, hfileJ_TooMany, lccJ_TooMany, hlineJ_TooMany⟩, E_37.no _ (List.mem_cons_self), alI, tI, fnI⟩
  have E_38 := clsF_of (PySem.W.mg_of X G a_Unread) x_Unread b_Unread ne_Unread sp_ tk_
  have O_38 : PySem.WrX.F_line.OwnTxt P K "Unread.__init__" D fI C_Unread J_Unread := ⟨⟨_, _, _, _, _, _, _, _, _, _, _, _, _, _, _, _, _, _, _, _, _, _, _, _, _, _, _, _, _, _, _, lJ_Unread, cJ_Unread, lcdJ_Unread, hvsJ_Unread, hfileJ_Unread, lccJ_Unread, hlineJ_Unread⟩, E_38.no _ (List.mem_cons_self), alI, tI, fnI⟩
  have E_39 := clsF_of (PySem.W.mg_of X G a_NotWhole) x_NotWhole b_NotWhole ne_NotWhole sp_ tk_
  have O_39 : PySem.WrX.F_tree.OwnTxt P K "NotWhole.__init__" D fI C_NotWhole J_NotWhole := ⟨⟨_, _, _, _, _, _, _, _, _, _, _, _, _, _, _, _, _, _, _, _, _, _, _, _, _, _, _, _, _, _, _, lJ_NotWhole, cJ_NotWhole, lcdJ_NotWhole, hvsJ_NotWhole, hfileJ_NotWhole, lccJ_NotWhole, hlineJ_NotWhole⟩, E_39.no _ (List.mem_cons_self), alI, tI, fnI⟩
  have E_40 := clsF_of (PySem.W.mg_of X G a_Rest) x_Rest b_Rest ne_Rest sp_ tk_
  have O_40 : PySem.WrX.F_tree.OwnTxt P K "Rest.__init__" D fI C_Rest J_Rest := ⟨⟨_, _, _, _, _, _, _, _, _, _, _, _, _, _, _, _, _, _, _, _, _, _, _, _, _, _, _, _, _, _, _, lJ_Rest, cJ_Rest, lcdJ_Rest, hvsJ_Rest, hfileJ_Rest, lccJ_Rest, hlineJ_Rest⟩, E_40.no _ (List.mem_cons_self), alI, tI, fnI⟩
  have E_41 := clsF_of (PySem.W.mg_of X G a_Apart) x_Apart b_Apart ne_Apart sp_ tk_
  have O_41 : PySem.WrX.F_tree.OwnTxt P K "Apart.__init__" D fI C_Apart J_Apart := ⟨⟨_, _, _, _, _, _, _, _, _, _, _, _, _, _, _, _, _, _, _, _, _, _, _, _, _, _, _, _, _, _, _, lJ_Apart, cJ_Apart, lcdJ_Apart, hvsJ_Apart, hfileJ_Apart, lccJ_Apart, hlineJ_Apart⟩, E_41.no _ (List.mem_cons_self), alI, tI, fnI⟩
  have E_42 := clsF_of (PySem.W.mg_of X G a_Growing) x_Growing b_Growing ne_Growing sp_ tk_
  have O_42 : PySem.WrX.F_name.OwnTxt P K "Growing.__init__" D fI C_Growing J_Growing := ⟨⟨_, _, _, _, _, _, _, _, _, _, _, _, _, _, _, _, _, _, _, _, _, _, _, _, _, _, _, _, _, _, _, lJ_Growing, cJ_Growing, lcdJ_Growing, hvsJ_Growing, hfileJ_Growing, lccJ_Growing, hlineJ_Growing⟩, E_42.no _ (List.mem_cons_self), alI, tI, fnI⟩
  have E_43 := clsF_of (PySem.W.mg_of X G a_Missing) x_Missing b_Missing ne_Missing sp_ tk_
  have O_43 : PySem.WrX.F_name.OwnTxt P K "Missing.__init__" D fI C_Missing J_Missing := ⟨⟨_, _, _, _, _, _, _, _, _, _, _, _, _, _, _, _, _, _, _, _, _, _, _, _, _, _, _, _, _, _, _, lJ_Missing, cJ_Missing, lcdJ_Missing, hvsJ_Missing, hfileJ_Missing, lccJ_Missing, hlineJ_Missing⟩, E_43.no _ (List.mem_cons_self), alI, tI, fnI⟩
  have E_44 := clsF_of (PySem.W.mg_of X G a_Taken) x_Taken b_Taken ne_Taken sp_ tk_
  have O_44 : PySem.WrX.F_name.OwnTxt P K "Taken.__init__" D fI C_Taken J_Taken := ⟨⟨_, _, _, _, _, _, _, _, _, _, _, _, _, _, _, _, _, _, _, _, _, _, _, _, _, _, _, _, _, _, _, lJ_Taken, cJ_Taken, lcdJ_Taken, hvsJ_Taken, hfileJ_Taken, lccJ_Taken, hlineJ_Taken⟩, E_44.no _ (List.mem_cons_self), alI, tI, fnI⟩
  have E_45 := clsF_of (PySem.W.mg_of X G a_InUse) x_InUse b_InUse ne_InUse sp_ tk_
  have O_45 : PySem.WrX.F_name.OwnTxt P K "InUse.__init__" D fI C_InUse J_InUse := ⟨⟨_, _, _, _, _, _, _, _, _, _, _, _, _, _, _, _, _, _, _, _, _, _, _, _, _, _, _, _, _, _, _, lJ_InUse, cJ_InUse, lcdJ_InUse, hvsJ_InUse, hfileJ_InUse, lccJ_InUse, hlineJ_InUse⟩, E_45.no _ (List.mem_cons_self), alI, tI, fnI⟩
  have E_46 := clsF_of (PySem.W.mg_of X G a_Unlike) x_Unlike b_Unlike ne_Unlike sp_ tk_
  have O_46 : PySem.WrX.F_two.OwnTxt P K "Unlike.__init__" D fI C_Unlike J_Unlike := ⟨⟨_, _, _, _, _, _, _, _, _, _, _, _, _, _, _, _, _, _, _, _, _, _, _, _, _, _, _, _, _, _, _, _, _, _, _, _, _, _, lJ_Unlike, cJ_Unlike, lcdJ_Unlike, hvsJ_Unlike, hfileJ_Unlike, lccJ_Unlike, hlineJ_Unlike⟩, E_46.no _ (List.mem_cons_self), E_46.no _ (List.mem_cons_of_mem _ List.mem_cons_self), alI, tI, fnI⟩
  have E_47 := clsF_of (PySem.W.mg_of X G a_NothingToUndo) x_NothingToUndo b_NothingToUndo ne_NothingToUndo sp_ tk_
  have O_47 : PySem.WrX.F_none.OwnTxt P K "NothingToUndo.__init__" C_NothingToUndo J_NothingToUndo := ⟨⟨_, _, _, _, _, _, _, _, _, _, _, _, _, _, lJ_NothingToUndo, cJ_NothingToUndo⟩⟩
  have E_48 := clsF_of (PySem.W.mg_of X G a_NothingToRedo) x_NothingToRedo b_NothingToRedo ne_NothingToRedo sp_ tk_
  have O_48 : PySem.WrX.F_none.OwnTxt P K "NothingToRedo.__init__" C_NothingToRedo J_NothingToRedo := ⟨⟨_, _, _, _, _, _, _, _, _, _, _, _, _, _, lJ_NothingToRedo, cJ_NothingToRedo⟩⟩
  have all : ∀ k, k < 49 → ∃ nm fJ, ClsF K mg nm D fJ (cl0 k) (fdsK k) := fun k h => match k, h with
    | 0, _ => ⟨_, _, E_0⟩
    | 1, _ => ⟨_, _, E_1⟩
    | 2, _ => ⟨_, _, E_2⟩
    | 3, _ => ⟨_, _, E_3⟩
    | 4, _ => ⟨_, _, E_4⟩
    | 5, _ => ⟨_, _, E_5⟩
    | 6, _ => ⟨_, _, E_6⟩
    | 7, _ => ⟨_, _, E_7⟩
    | 8, _ => ⟨_, _, E_8⟩
    | 9, _ => ⟨_, _, E_9⟩
    | 10, _ => ⟨_, _, E_10⟩
    | 11, _ => ⟨_, _, E_11⟩
    | 12, _ => ⟨_, _, E_12⟩
    | 13, _ => ⟨_, _, E_13⟩
    | 14, _ => ⟨_, _, E_14⟩
    | 15, _ => ⟨_, _, E_15⟩
    | 16, _ => ⟨_, _, E_16⟩
    | 17, _ => ⟨_, _, E_17⟩
    | 18, _ => ⟨_, _, E_18⟩
    | 19, _ => ⟨_, _, E_19⟩
    | 20, _ => ⟨_, _, E_20⟩
    | 21, _ => ⟨_, _, E_21⟩
    | 22, _ => ⟨_, _, E_22⟩
    | 23, _ => ⟨_, _, E_23⟩
    | 24, _ => ⟨_, _, E_24⟩
    | 25, _ => ⟨_, _, E_25⟩
    | 26, _ => ⟨_, _, E_26⟩
    | 27, _ => ⟨_, _, E_27⟩
    | 28, _ => ⟨_, _, E_28⟩
    | 29, _ => ⟨_, _, E_29⟩
    | 30, _ => ⟨_, _, E_30⟩
    | 31, _ => ⟨_, _, E_31⟩
    | 32, _ => ⟨_, _, E_32⟩
    | 33, _ => ⟨_, _, E_33⟩
    | 34, _ => ⟨_, _, E_34⟩
    | 35, _ => ⟨_, _, E_35⟩
    | 36, _ => ⟨_, _, E_36⟩
    | 37, _ => ⟨_, _, E_37⟩
    | 38, _ => ⟨_, _, E_38⟩
    | 39, _ => ⟨_, _, E_39⟩
    | 40, _ => ⟨_, _, E_40⟩
    | 41, _ => ⟨_, _, E_41⟩
    | 42, _ => ⟨_, _, E_42⟩
    | 43, _ => ⟨_, _, E_43⟩
    | 44, _ => ⟨_, _, E_44⟩
    | 45, _ => ⟨_, _, E_45⟩
    | 46, _ => ⟨_, _, E_46⟩
    | 47, _ => ⟨_, _, E_47⟩
    | 48, _ => ⟨_, _, E_48⟩
    | k + 49, h => absurd h (by omega)
  let T : Tx P K mg := {
    a_law_box := f_law_box, f_law_box := _, F_law_box := F_law_box, D_law_box := ⟨PySem.W.mg_of X G a_law_box, k_law_box, b_law_box⟩,
    a_law_take := f_law_take, f_law_take := _, F_law_take := F_law_take, D_law_take := ⟨PySem.W.mg_of X G a_law_take, k_law_take, b_law_take⟩,
    a_law_cell := f_law_cell, f_law_cell := _, F_law_cell := F_law_cell, D_law_cell := ⟨PySem.W.mg_of X G a_law_cell, k_law_cell, b_law_cell⟩,
    a_law_same := f_law_same, f_law_same := _, F_law_same := F_law_same, D_law_same := ⟨PySem.W.mg_of X G a_law_same, k_law_same, b_law_same⟩,
    a_law_mixed := f_law_mixed, f_law_mixed := _, F_law_mixed := F_law_mixed, D_law_mixed := ⟨PySem.W.mg_of X G a_law_mixed, k_law_mixed, b_law_mixed⟩,
    a_law_anything := f_law_anything, f_law_anything := _, F_law_anything := F_law_anything, D_law_anything := ⟨PySem.W.mg_of X G a_law_anything, k_law_anything, b_law_anything⟩,
    a_law_grown := f_law_grown, f_law_grown := _, F_law_grown := F_law_grown, D_law_grown := ⟨PySem.W.mg_of X G a_law_grown, k_law_grown, b_law_grown⟩,
    a_law_still := f_law_still, f_law_still := _, F_law_still := F_law_still, D_law_still := ⟨PySem.W.mg_of X G a_law_still, k_law_still, b_law_still⟩,
    a_law_made_0 := f_law_made_0, f_law_made_0 := _, F_law_made_0 := F_law_made_0, D_law_made_0 := ⟨PySem.W.mg_of X G a_law_made_0, k_law_made_0, b_law_made_0⟩,
    a_law_made_1 := f_law_made_1, f_law_made_1 := _, F_law_made_1 := F_law_made_1, D_law_made_1 := ⟨PySem.W.mg_of X G a_law_made_1, k_law_made_1, b_law_made_1⟩,
    a_law_classes := f_law_classes, f_law_classes := _, F_law_classes := F_law_classes, D_law_classes := ⟨PySem.W.mg_of X G a_law_classes, k_law_classes, b_law_classes⟩,
    a_law_read := f_law_read, f_law_read := _, F_law_read := F_law_read, D_law_read := ⟨PySem.W.mg_of X G a_law_read, k_law_read, b_law_read⟩,
    a_law_raise := f_law_raise, f_law_raise := _, F_law_raise := F_law_raise, D_law_raise := ⟨PySem.W.mg_of X G a_law_raise, k_law_raise, b_law_raise⟩,
    a_law_raised := f_law_raised, f_law_raised := _, F_law_raised := F_law_raised, D_law_raised := ⟨PySem.W.mg_of X G a_law_raised, k_law_raised, b_law_raised⟩,
    a_law_class_right := f_law_class_right, f_law_class_right := _, F_law_class_right := F_law_class_right, D_law_class_right := ⟨PySem.W.mg_of X G a_law_class_right, k_law_class_right, b_law_class_right⟩,
    a_law := fa, f_law := _, F_law := F_law, D_law := ⟨PySem.W.mg_of X G a_law, k_law, b_law⟩,
    m_isinstance := PySem.W.mg_none_of X G z_isinstance,
    m_int := PySem.W.mg_none_of X G z_int,
    m_bool := PySem.W.mg_none_of X G z_bool,
    m_str := PySem.W.mg_none_of X G z_str,
    m_list := PySem.W.mg_none_of X G z_list,
    m_tuple := PySem.W.mg_none_of X G z_tuple,
    m_dict := PySem.W.mg_none_of X G z_dict,
    m_len := PySem.W.mg_none_of X G z_len,
    m_sum := PySem.W.mg_none_of X G z_sum,
    m_range := PySem.W.mg_none_of X G z_range,
    m_abs := PySem.W.mg_none_of X G z_abs,
    m_max := PySem.W.mg_none_of X G z_max,
    m_min := PySem.W.mg_none_of X G z_min,
    aW := D, gW := PySem.W.mg_of X G aW, m_ValueError := PySem.W.mg_none_of X G z_VE, cl := cl0,
    gC_0 := PySem.W.mg_of X G a_InvalidNumber, kC_0 := E_0.ct.kC, md_0 := fun w => made_W BT E_0.ct, mk_0 := fun w => made_Wk BT E_0.ct,
    gC_1 := PySem.W.mg_of X G a_InvalidNumbers, kC_1 := E_1.ct.kC, md_1 := fun w => made_W BT E_1.ct, mk_1 := fun w => made_Wk BT E_1.ct,
    gC_2 := PySem.W.mg_of X G a_InvalidModulus, kC_2 := E_2.ct.kC, md_2 := fun w => made_W BT E_2.ct, mk_2 := fun w => made_Wk BT E_2.ct,
    gC_3 := PySem.W.mg_of X G a_InvalidPrime, kC_3 := E_3.ct.kC, md_3 := fun w => made_W BT E_3.ct, mk_3 := fun w => made_Wk BT E_3.ct,
    gC_4 := PySem.W.mg_of X G a_InvalidRests, kC_4 := E_4.ct.kC, md_4 := fun w => made_W BT E_4.ct, mk_4 := fun w => made_Wk BT E_4.ct,
    gC_5 := PySem.W.mg_of X G a_InvalidBound, kC_5 := E_5.ct.kC, md_5 := fun w => made_W BT E_5.ct, mk_5 := fun w => made_Wk BT E_5.ct,
    gC_6 := PySem.W.mg_of X G a_InvalidCount, kC_6 := E_6.ct.kC, md_6 := fun w => made_W BT E_6.ct, mk_6 := fun w => made_Wk BT E_6.ct,
    gC_7 := PySem.W.mg_of X G a_InvalidWidth, kC_7 := E_7.ct.kC, md_7 := fun w => made_W BT E_7.ct, mk_7 := fun w => made_Wk BT E_7.ct,
    gC_8 := PySem.W.mg_of X G a_InvalidLine, kC_8 := E_8.ct.kC, md_8 := fun w => made_W BT E_8.ct, mk_8 := fun w => made_Wk BT E_8.ct,
    gC_9 := PySem.W.mg_of X G a_InvalidLines, kC_9 := E_9.ct.kC, md_9 := fun w => made_W BT E_9.ct, mk_9 := fun w => made_Wk BT E_9.ct,
    gC_10 := PySem.W.mg_of X G a_InvalidLattice, kC_10 := E_10.ct.kC, md_10 := fun w => made_W BT E_10.ct, mk_10 := fun w => made_Wk BT E_10.ct,
    gC_11 := PySem.W.mg_of X G a_InvalidTable, kC_11 := E_11.ct.kC, md_11 := fun w => made_W BT E_11.ct, mk_11 := fun w => made_Wk BT E_11.ct,
    gC_12 := PySem.W.mg_of X G a_InvalidGoal, kC_12 := E_12.ct.kC, md_12 := fun w => made_W BT E_12.ct, mk_12 := fun w => made_Wk BT E_12.ct,
    gC_13 := PySem.W.mg_of X G a_InvalidPolynomial, kC_13 := E_13.ct.kC, md_13 := fun w => made_W BT E_13.ct, mk_13 := fun w => made_Wk BT E_13.ct,
    gC_14 := PySem.W.mg_of X G a_InvalidDegrees, kC_14 := E_14.ct.kC, md_14 := fun w => made_W BT E_14.ct, mk_14 := fun w => made_Wk BT E_14.ct,
    gC_15 := PySem.W.mg_of X G a_InvalidItem, kC_15 := E_15.ct.kC, md_15 := fun w => made_W BT E_15.ct, mk_15 := fun w => made_Wk BT E_15.ct,
    gC_16 := PySem.W.mg_of X G a_InvalidItems, kC_16 := E_16.ct.kC, md_16 := fun w => made_W BT E_16.ct, mk_16 := fun w => made_Wk BT E_16.ct,
    gC_17 := PySem.W.mg_of X G a_InvalidNodes, kC_17 := E_17.ct.kC, md_17 := fun w => made_W BT E_17.ct, mk_17 := fun w => made_Wk BT E_17.ct,
    gC_18 := PySem.W.mg_of X G a_InvalidKinds, kC_18 := E_18.ct.kC, md_18 := fun w => made_W BT E_18.ct, mk_18 := fun w => made_Wk BT E_18.ct,
    gC_19 := PySem.W.mg_of X G a_InvalidName, kC_19 := E_19.ct.kC, md_19 := fun w => made_W BT E_19.ct, mk_19 := fun w => made_Wk BT E_19.ct,
    gC_20 := PySem.W.mg_of X G a_InvalidTree, kC_20 := E_20.ct.kC, md_20 := fun w => made_W BT E_20.ct, mk_20 := fun w => made_Wk BT E_20.ct,
    gC_21 := PySem.W.mg_of X G a_InvalidContext, kC_21 := E_21.ct.kC, md_21 := fun w => made_W BT E_21.ct, mk_21 := fun w => made_Wk BT E_21.ct,
    gC_22 := PySem.W.mg_of X G a_InvalidPattern, kC_22 := E_22.ct.kC, md_22 := fun w => made_W BT E_22.ct, mk_22 := fun w => made_Wk BT E_22.ct,
    gC_23 := PySem.W.mg_of X G a_InvalidPlace, kC_23 := E_23.ct.kC, md_23 := fun w => made_W BT E_23.ct, mk_23 := fun w => made_Wk BT E_23.ct,
    gC_24 := PySem.W.mg_of X G a_InvalidStandings, kC_24 := E_24.ct.kC, md_24 := fun w => made_W BT E_24.ct, mk_24 := fun w => made_Wk BT E_24.ct,
    gC_25 := PySem.W.mg_of X G a_InvalidBook, kC_25 := E_25.ct.kC, md_25 := fun w => made_W BT E_25.ct, mk_25 := fun w => made_Wk BT E_25.ct,
    gC_26 := PySem.W.mg_of X G a_InvalidText, kC_26 := E_26.ct.kC, md_26 := fun w => made_W BT E_26.ct, mk_26 := fun w => made_Wk BT E_26.ct,
    gC_27 := PySem.W.mg_of X G a_InvalidCounts, kC_27 := E_27.ct.kC, md_27 := fun w => made_W BT E_27.ct, mk_27 := fun w => made_Wk BT E_27.ct,
    gC_28 := PySem.W.mg_of X G a_InvalidRules, kC_28 := E_28.ct.kC, md_28 := fun w => made_W BT E_28.ct, mk_28 := fun w => made_Wk BT E_28.ct,
    gC_29 := PySem.W.mg_of X G a_InvalidEnds, kC_29 := E_29.ct.kC, md_29 := fun w => made_W BT E_29.ct, mk_29 := fun w => made_Wk BT E_29.ct,
    gC_30 := PySem.W.mg_of X G a_InvalidProgram, kC_30 := E_30.ct.kC, md_30 := fun w => made_W BT E_30.ct, mk_30 := fun w => made_Wk BT E_30.ct,
    gC_31 := PySem.W.mg_of X G a_InvalidOther, kC_31 := E_31.ct.kC, md_31 := fun w => made_W BT E_31.ct, mk_31 := fun w => made_Wk BT E_31.ct,
    gC_32 := PySem.W.mg_of X G a_InvalidStanding, kC_32 := E_32.ct.kC, md_32 := fun w => made_W BT E_32.ct, mk_32 := fun w => made_Wk BT E_32.ct,
    gC_33 := PySem.W.mg_of X G a_InvalidLadder, kC_33 := E_33.ct.kC, md_33 := fun w => made_W BT E_33.ct, mk_33 := fun w => made_Wk BT E_33.ct,
    gC_34 := PySem.W.mg_of X G a_InvalidCode, kC_34 := E_34.ct.kC, md_34 := fun w => made_W BT E_34.ct, mk_34 := fun w => made_Wk BT E_34.ct,
    gC_35 := PySem.W.mg_of X G a_InvalidAnswers, kC_35 := E_35.ct.kC, md_35 := fun w => made_W BT E_35.ct, mk_35 := fun w => made_Wk BT E_35.ct,
    gC_36 := PySem.W.mg_of X G a_InvalidClaim, kC_36 := E_36.ct.kC, md_36 := fun w => made_W BT E_36.ct, mk_36 := fun w => made_Wk BT E_36.ct,
    gC_37 := PySem.W.mg_of X G a_TooMany, kC_37 := E_37.ct.kC, md_37 := fun w => made_count BT E_37.ct O_37, mk_37 := fun w => made_countk BT E_37.ct O_37,
    gC_38 := PySem.W.mg_of X G a_Unread, kC_38 := E_38.ct.kC, md_38 := fun w => made_line BT E_38.ct O_38, mk_38 := fun w => made_linek BT E_38.ct O_38,
    gC_39 := PySem.W.mg_of X G a_NotWhole, kC_39 := E_39.ct.kC, md_39 := fun w => made_tree BT E_39.ct O_39, mk_39 := fun w => made_treek BT E_39.ct O_39,
    gC_40 := PySem.W.mg_of X G a_Rest, kC_40 := E_40.ct.kC, md_40 := fun w => made_tree BT E_40.ct O_40, mk_40 := fun w => made_treek BT E_40.ct O_40,
    gC_41 := PySem.W.mg_of X G a_Apart, kC_41 := E_41.ct.kC, md_41 := fun w => made_tree BT E_41.ct O_41, mk_41 := fun w => made_treek BT E_41.ct O_41,
    gC_42 := PySem.W.mg_of X G a_Growing, kC_42 := E_42.ct.kC, md_42 := fun w => made_name BT E_42.ct O_42, mk_42 := fun w => made_namek BT E_42.ct O_42,
    gC_43 := PySem.W.mg_of X G a_Missing, kC_43 := E_43.ct.kC, md_43 := fun w => made_name BT E_43.ct O_43, mk_43 := fun w => made_namek BT E_43.ct O_43,
    gC_44 := PySem.W.mg_of X G a_Taken, kC_44 := E_44.ct.kC, md_44 := fun w => made_name BT E_44.ct O_44, mk_44 := fun w => made_namek BT E_44.ct O_44,
    gC_45 := PySem.W.mg_of X G a_InUse, kC_45 := E_45.ct.kC, md_45 := fun w => made_name BT E_45.ct O_45, mk_45 := fun w => made_namek BT E_45.ct O_45,
    gC_46 := PySem.W.mg_of X G a_Unlike, kC_46 := E_46.ct.kC, md_46 := fun w => made_two BT E_46.ct O_46, mk_46 := fun w => made_twok BT E_46.ct O_46,
    gC_47 := PySem.W.mg_of X G a_NothingToUndo, kC_47 := E_47.ct.kC, md_47 := fun w => made_none E_47.ct O_47,
    gC_48 := PySem.W.mg_of X G a_NothingToRedo, kC_48 := E_48.ct.kC, md_48 := fun w => made_none E_48.ct O_48,
    ki := fun k h => let ⟨_, _, z⟩ := all k h; z.ki, xf := fun k h => let ⟨_, _, z⟩ := all k h; z.xf, no := fun k h => let ⟨_, _, z⟩ := all k h; z.no,
    kt := fun k j hk hj => by
      obtain ⟨_, _, z1⟩ := all k hk
      obtain ⟨_, _, z2⟩ := all j hj
      rw [kit_own z1 z2]
      exact congrArg some (decide_eq_decide.mpr ⟨fun e => nodup_get nd_ hk hj e, fun e => by rw [e]⟩),
    kW := fun k h => let ⟨_, _, z⟩ := all k h; kit_base z iD tD, kV := fun k h => let ⟨_, _, z⟩ := all k h; kit_ve z kv_, ew := fun k h => let ⟨_, _, z⟩ := all k h; exm_base z iD tD bD,
    sb_0 := E_0.ct.exC, ty_0 := E_0.ty,
    sb_37 := E_37.ct.exC, ty_37 := E_37.ty,
    sb_46 := E_46.ct.exC, ty_46 := E_46.ty,
    sb_47 := E_47.ct.exC, ty_47 := E_47.ty,
    sb_48 := E_48.ct.exC, ty_48 := E_48.ty }
  exact ⟨PySem.W.fnOf "law" "law" (defArgs s_law) (defBody s_law) (defScope s_law) .none kV_law dc_law pm_law an_law cd_law ct_law, fun s v => .of_eq rfl, fun base _ _ => by
    have z := ok_law (w := w) (base := base) T
    exact z⟩
theorem sp_law_ok {K : PySem.W.Frag} {H : Hp} {a : Addr} {ns : List Int} (hO : Only H) (hS : SqL K H a (ns.map V.int)) : sp_law K [.ref a] H (fun v _ => v = .bl true) fun _ _ _ => False := by
  have hF : SqF K H a (ns.map V.int) := by
    rcases hS with (h | h) | h
    · rcases hO a with z | ⟨o, xs, z⟩
      · rw [z] at h; cases h
      · rw [z] at h; cases h
    · exact .inl h
    · exact .inr h
  exact ⟨fun _ => False, fun _ => False, ns, fun _ z => z, fun _ z => z.elim, fun _ z => z.elim, trivial, ⟨⟨a, rfl, hF⟩, True.intro⟩, fun v H' _ z => by cases z; rfl⟩
set_option maxHeartbeats 0 in
theorem facts {w : World} {K : PySem.W.Frag} {h : Heap} {mg : Str → Option Value} {fa : Addr} (X : K.In h) (G : h.Ns mainGlobals mg) (hfa : mg "law" = some (.ref fa)) (c : Hd.says fs fnl K) :
    ∃ fd : FuncData, (∀ (s : Shared) (v : Value), BindsTo s fd ⟨[v], []⟩ [("script", v)]) ∧ ∀ base : Heap, K.In base → base.Ns mainGlobals mg → FnOk PySem.Challenge.rw_everywrap_k00_errors.prog w K mg base (L2.CX PySem.Challenge.rw_everywrap_k00_errors.prog w) 16 fa fd ["script"] (sp_law K) := by
  obtain ⟨oc_law_box, od_law_box, sl_law_box, kV_law_box, dc_law_box, pm_law_box, an_law_box, cd_law_box, ct_law_box, l_law_box, c_law_box, k_law_box⟩ := Hd.Df.get (Hd.dfn c (i := 0) rfl) rfl (Hd.fact c (i := 0) (j := 0) rfl rfl)
  obtain ⟨oc_law_take, od_law_take, sl_law_take, kV_law_take, dc_law_take, pm_law_take, an_law_take, cd_law_take, ct_law_take, l_law_take, c_law_take, k_law_take⟩ := Hd.Df.get (Hd.dfn c (i := 1) rfl) rfl (Hd.fact c (i := 0) (j := 1) rfl rfl)
  obtain ⟨oc_law_cell, od_law_cell, sl_law_cell, kV_law_cell, dc_law_cell, pm_law_cell, an_law_cell, cd_law_cell, ct_law_cell, l_law_cell, c_law_cell, k_law_cell⟩ := Hd.Df.get (Hd.dfn c (i := 2) rfl) rfl (Hd.fact c (i := 0) (j := 2) rfl rfl)
  obtain ⟨oc_law_same, od_law_same, sl_law_same, kV_law_same, dc_law_same, pm_law_same, an_law_same, cd_law_same, ct_law_same, l_law_same, c_law_same, k_law_same⟩ := Hd.Df.get (Hd.dfn c (i := 3) rfl) rfl (Hd.fact c (i := 0) (j := 3) rfl rfl)
  obtain ⟨oc_law_mixed, od_law_mixed, sl_law_mixed, kV_law_mixed, dc_law_mixed, pm_law_mixed, an_law_mixed, cd_law_mixed, ct_law_mixed, l_law_mixed, c_law_mixed, k_law_mixed⟩ := Hd.Df.get (Hd.dfn c (i := 4) rfl) rfl (Hd.fact c (i := 0) (j := 4) rfl rfl)
  obtain ⟨oc_law_anything, od_law_anything, sl_law_anything, kV_law_anything, dc_law_anything, pm_law_anything, an_law_anything, cd_law_anything, ct_law_anything, l_law_anything, c_law_anything, k_law_anything⟩ := Hd.Df.get (Hd.dfn c (i := 5) rfl) rfl (Hd.fact c (i := 0) (j := 5) rfl rfl)
  obtain ⟨oc_law_grown, od_law_grown, sl_law_grown, kV_law_grown, dc_law_grown, pm_law_grown, an_law_grown, cd_law_grown, ct_law_grown, l_law_grown, c_law_grown, k_law_grown⟩ := Hd.Df.get (Hd.dfn c (i := 6) rfl) rfl (Hd.fact c (i := 0) (j := 6) rfl rfl)
  obtain ⟨oc_law_still, od_law_still, sl_law_still, kV_law_still, dc_law_still, pm_law_still, an_law_still, cd_law_still, ct_law_still, l_law_still, c_law_still, k_law_still⟩ := Hd.Df.get (Hd.dfn c (i := 7) rfl) rfl (Hd.fact c (i := 0) (j := 7) rfl rfl)
  obtain ⟨oc_law_made_0, od_law_made_0, sl_law_made_0, kV_law_made_0, dc_law_made_0, pm_law_made_0, an_law_made_0, cd_law_made_0, ct_law_made_0, l_law_made_0, c_law_made_0, k_law_made_0⟩ := Hd.Df.get (Hd.dfn c (i := 8) rfl) rfl (Hd.fact c (i := 0) (j := 8) rfl rfl)
  obtain ⟨oc_law_made_1, od_law_made_1, sl_law_made_1, kV_law_made_1, dc_law_made_1, pm_law_made_1, an_law_made_1, cd_law_made_1, ct_law_made_1, l_law_made_1, c_law_made_1, k_law_made_1⟩ := Hd.Df.get (Hd.dfn c (i := 9) rfl) rfl (Hd.fact c (i := 0) (j := 9) rfl rfl)
  obtain ⟨oc_law_classes, od_law_classes, sl_law_classes, kV_law_classes, dc_law_classes, pm_law_classes, an_law_classes, cd_law_classes, ct_law_classes, l_law_classes, c_law_classes, k_law_classes⟩ := Hd.Df.get (Hd.dfn c (i := 10) rfl) rfl (Hd.fact c (i := 0) (j := 10) rfl rfl)
  obtain ⟨oc_law_read, od_law_read, sl_law_read, kV_law_read, dc_law_read, pm_law_read, an_law_read, cd_law_read, ct_law_read, l_law_read, c_law_read, k_law_read⟩ := Hd.Df.get (Hd.dfn c (i := 11) rfl) rfl (Hd.fact c (i := 0) (j := 11) rfl rfl)
  obtain ⟨oc_law_raise, od_law_raise, sl_law_raise, kV_law_raise, dc_law_raise, pm_law_raise, an_law_raise, cd_law_raise, ct_law_raise, l_law_raise, c_law_raise, k_law_raise⟩ := Hd.Df.get (Hd.dfn c (i := 12) rfl) rfl (Hd.fact c (i := 0) (j := 12) rfl rfl)
  obtain ⟨oc_law_raised, od_law_raised, sl_law_raised, kV_law_raised, dc_law_raised, pm_law_raised, an_law_raised, cd_law_raised, ct_law_raised, l_law_raised, c_law_raised, k_law_raised⟩ := Hd.Df.get (Hd.dfn c (i := 13) rfl) rfl (Hd.fact c (i := 0) (j := 13) rfl rfl)
  obtain ⟨oc_law_class_right, od_law_class_right, sl_law_class_right, kV_law_class_right, dc_law_class_right, pm_law_class_right, an_law_class_right, cd_law_class_right, ct_law_class_right, l_law_class_right, c_law_class_right, k_law_class_right⟩ := Hd.Df.get (Hd.dfn c (i := 14) rfl) rfl (Hd.fact c (i := 0) (j := 14) rfl rfl)
  obtain ⟨oc_law, od_law, sl_law, kV_law, dc_law, pm_law, an_law, cd_law, ct_law, l_law, c_law, k_law⟩ := Hd.Df.get (Hd.dfn c (i := 15) rfl) rfl (Hd.fact c (i := 0) (j := 15) rfl rfl)
  obtain ⟨nmD, qD, ND, bsD, snD, subD, abD, colD, ddD, w0, w1, w2, w3, w5, xW⟩ := Hd.excB_ok (C := fun K => He.ga K "WrapError") (bm := fun _ => Hd.veT) (Hd.fact c (i := 0) (j := 16) rfl rfl)
  obtain ⟨ZocW, ZodW, ZslW, ZdVW, ZkVW, ZdcW, ZpmW, ZanW, ZcdaW, ZccW, ZctW, ZcclW, ZclW, ZcddW, ZcldW, ZvsW, ZccsW, ZcslW, ZfW, ZtfW, ZlW, ZcoW, ZlcdW, ZhvsW, ZhfW, ZlccW, ZnW, ZyW⟩ := Hd.Df.ks_get (file := (PySem.Challenge.rw_everywrap_k00_errors.prog.main.file : Str)) (df := true) (C := fun K => He.ga K "WrapError") (Hd.dfn c (i := 16) rfl) rfl (Hd.fact c (i := 0) (j := 17) rfl rfl)
  obtain ⟨ZTdW, ZtcW, ZtdW, ZnTW, ZtslW, ZeW, ZlTW⟩ := ZyW rfl
  subst ZeW
  obtain ⟨nm_TooMany, q_TooMany, N_TooMany, bs_TooMany, sn_TooMany, su_TooMany, ab_TooMany, col_TooMany, dd_TooMany, u0_TooMany, u1_TooMany, u2_TooMany, u3_TooMany, u5_TooMany, x_TooMany⟩ := Hd.excB_ok (C := fun K => He.ga K "TooMany") (bm := fun K => .ref (He.ga K "WrapError") :: Hd.veT) (Hd.fact c (i := 0) (j := 18) rfl rfl)
  obtain ⟨nm_Unread, q_Unread, N_Unread, bs_Unread, sn_Unread, su_Unread, ab_Unread, col_Unread, dd_Unread, u0_Unread, u1_Unread, u2_Unread, u3_Unread, u5_Unread, x_Unread⟩ := Hd.excB_ok (C := fun K => He.ga K "Unread") (bm := fun K => .ref (He.ga K "WrapError") :: Hd.veT) (Hd.fact c (i := 0) (j := 19) rfl rfl)
  obtain ⟨nm_NotWhole, q_NotWhole, N_NotWhole, bs_NotWhole, sn_NotWhole, su_NotWhole, ab_NotWhole, col_NotWhole, dd_NotWhole, u0_NotWhole, u1_NotWhole, u2_NotWhole, u3_NotWhole, u5_NotWhole, x_NotWhole⟩ := Hd.excB_ok (C := fun K => He.ga K "NotWhole") (bm := fun K => .ref (He.ga K "WrapError") :: Hd.veT) (Hd.fact c (i := 0) (j := 20) rfl rfl)
  obtain ⟨nm_Rest, q_Rest, N_Rest, bs_Rest, sn_Rest, su_Rest, ab_Rest, col_Rest, dd_Rest, u0_Rest, u1_Rest, u2_Rest, u3_Rest, u5_Rest, x_Rest⟩ := Hd.excB_ok (C := fun K => He.ga K "Rest") (bm := fun K => .ref (He.ga K "WrapError") :: Hd.veT) (Hd.fact c (i := 0) (j := 21) rfl rfl)
  obtain ⟨nm_Apart, q_Apart, N_Apart, bs_Apart, sn_Apart, su_Apart, ab_Apart, col_Apart, dd_Apart, u0_Apart, u1_Apart, u2_Apart, u3_Apart, u5_Apart, x_Apart⟩ := Hd.excB_ok (C := fun K => He.ga K "Apart") (bm := fun K => .ref (He.ga K "WrapError") :: Hd.veT) (Hd.fact c (i := 0) (j := 22) rfl rfl)
  obtain ⟨nm_Unlike, q_Unlike, N_Unlike, bs_Unlike, sn_Unlike, su_Unlike, ab_Unlike, col_Unlike, dd_Unlike, u0_Unlike, u1_Unlike, u2_Unlike, u3_Unlike, u5_Unlike, x_Unlike⟩ := Hd.excB_ok (C := fun K => He.ga K "Unlike") (bm := fun K => .ref (He.ga K "WrapError") :: Hd.veT) (Hd.fact c (i := 0) (j := 23) rfl rfl)
  obtain ⟨nm_Growing, q_Growing, N_Growing, bs_Growing, sn_Growing, su_Growing, ab_Growing, col_Growing, dd_Growing, u0_Growing, u1_Growing, u2_Growing, u3_Growing, u5_Growing, x_Growing⟩ := Hd.excB_ok (C := fun K => He.ga K "Growing") (bm := fun K => .ref (He.ga K "WrapError") :: Hd.veT) (Hd.fact c (i := 0) (j := 24) rfl rfl)
  obtain ⟨nm_Missing, q_Missing, N_Missing, bs_Missing, sn_Missing, su_Missing, ab_Missing, col_Missing, dd_Missing, u0_Missing, u1_Missing, u2_Missing, u3_Missing, u5_Missing, x_Missing⟩ := Hd.excB_ok (C := fun K => He.ga K "Missing") (bm := fun K => .ref (He.ga K "WrapError") :: Hd.veT) (Hd.fact c (i := 1) (j := 0) rfl rfl)
  obtain ⟨nm_Taken, q_Taken, N_Taken, bs_Taken, sn_Taken, su_Taken, ab_Taken, col_Taken, dd_Taken, u0_Taken, u1_Taken, u2_Taken, u3_Taken, u5_Taken, x_Taken⟩ := Hd.excB_ok (C := fun K => He.ga K "Taken") (bm := fun K => .ref (He.ga K "WrapError") :: Hd.veT) (Hd.fact c (i := 1) (j := 1) rfl rfl)
  obtain ⟨nm_InUse, q_InUse, N_InUse, bs_InUse, sn_InUse, su_InUse, ab_InUse, col_InUse, dd_InUse, u0_InUse, u1_InUse, u2_InUse, u3_InUse, u5_InUse, x_InUse⟩ := Hd.excB_ok (C := fun K => He.ga K "InUse") (bm := fun K => .ref (He.ga K "WrapError") :: Hd.veT) (Hd.fact c (i := 1) (j := 2) rfl rfl)
  obtain ⟨nm_NothingToUndo, q_NothingToUndo, N_NothingToUndo, bs_NothingToUndo, sn_NothingToUndo, su_NothingToUndo, ab_NothingToUndo, col_NothingToUndo, dd_NothingToUndo, u0_NothingToUndo, u1_NothingToUndo, u2_NothingToUndo, u3_NothingToUndo, u5_NothingToUndo, x_NothingToUndo⟩ := Hd.excB_ok (C := fun K => He.ga K "NothingToUndo") (bm := fun K => .ref (He.ga K "WrapError") :: Hd.veT) (Hd.fact c (i := 1) (j := 3) rfl rfl)
  obtain ⟨nm_NothingToRedo, q_NothingToRedo, N_NothingToRedo, bs_NothingToRedo, sn_NothingToRedo, su_NothingToRedo, ab_NothingToRedo, col_NothingToRedo, dd_NothingToRedo, u0_NothingToRedo, u1_NothingToRedo, u2_NothingToRedo, u3_NothingToRedo, u5_NothingToRedo, x_NothingToRedo⟩ := Hd.excB_ok (C := fun K => He.ga K "NothingToRedo") (bm := fun K => .ref (He.ga K "WrapError") :: Hd.veT) (Hd.fact c (i := 1) (j := 4) rfl rfl)
  obtain ⟨nm_InvalidNumber, q_InvalidNumber, N_InvalidNumber, bs_InvalidNumber, sn_InvalidNumber, su_InvalidNumber, ab_InvalidNumber, col_InvalidNumber, dd_InvalidNumber, u0_InvalidNumber, u1_InvalidNumber, u2_InvalidNumber, u3_InvalidNumber, u5_InvalidNumber, x_InvalidNumber⟩ := Hd.excB_ok (C := fun K => He.ga K "InvalidNumber") (bm := fun K => .ref (He.ga K "WrapError") :: Hd.veT) (Hd.fact c (i := 1) (j := 5) rfl rfl)
  obtain ⟨nm_InvalidNumbers, q_InvalidNumbers, N_InvalidNumbers, bs_InvalidNumbers, sn_InvalidNumbers, su_InvalidNumbers, ab_InvalidNumbers, col_InvalidNumbers, dd_InvalidNumbers, u0_InvalidNumbers, u1_InvalidNumbers, u2_InvalidNumbers, u3_InvalidNumbers, u5_InvalidNumbers, x_InvalidNumbers⟩ := Hd.excB_ok (C := fun K => He.ga K "InvalidNumbers") (bm := fun K => .ref (He.ga K "WrapError") :: Hd.veT) (Hd.fact c (i := 1) (j := 6) rfl rfl)
  obtain ⟨nm_InvalidModulus, q_InvalidModulus, N_InvalidModulus, bs_InvalidModulus, sn_InvalidModulus, su_InvalidModulus, ab_InvalidModulus, col_InvalidModulus, dd_InvalidModulus, u0_InvalidModulus, u1_InvalidModulus, u2_InvalidModulus, u3_InvalidModulus, u5_InvalidModulus, x_InvalidModulus⟩ := Hd.excB_ok (C := fun K => He.ga K "InvalidModulus") (bm := fun K => .ref (He.ga K "WrapError") :: Hd.veT) (Hd.fact c (i := 1) (j := 7) rfl rfl)
  obtain ⟨nm_InvalidPrime, q_InvalidPrime, N_InvalidPrime, bs_InvalidPrime, sn_InvalidPrime, su_InvalidPrime, ab_InvalidPrime, col_InvalidPrime, dd_InvalidPrime, u0_InvalidPrime, u1_InvalidPrime, u2_InvalidPrime, u3_InvalidPrime, u5_InvalidPrime, x_InvalidPrime⟩ := Hd.excB_ok (C := fun K => He.ga K "InvalidPrime") (bm := fun K => .ref (He.ga K "WrapError") :: Hd.veT) (Hd.fact c (i := 1) (j := 8) rfl rfl)
  obtain ⟨nm_InvalidRests, q_InvalidRests, N_InvalidRests, bs_InvalidRests, sn_InvalidRests, su_InvalidRests, ab_InvalidRests, col_InvalidRests, dd_InvalidRests, u0_InvalidRests, u1_InvalidRests, u2_InvalidRests, u3_InvalidRests, u5_InvalidRests, x_InvalidRests⟩ := Hd.excB_ok (C := fun K => He.ga K "InvalidRests") (bm := fun K => .ref (He.ga K "WrapError") :: Hd.veT) (Hd.fact c (i := 1) (j := 9) rfl rfl)
  obtain ⟨nm_InvalidBound, q_InvalidBound, N_InvalidBound, bs_InvalidBound, sn_InvalidBound, su_InvalidBound, ab_InvalidBound, col_InvalidBound, dd_InvalidBound, u0_InvalidBound, u1_InvalidBound, u2_InvalidBound, u3_InvalidBound, u5_InvalidBound, x_InvalidBound⟩ := Hd.excB_ok (C := fun K => He.ga K "InvalidBound") (bm := fun K => .ref (He.ga K "WrapError") :: Hd.veT) (Hd.fact c (i := 1) (j := 10) rfl rfl)
  obtain ⟨nm_InvalidCount, q_InvalidCount, N_InvalidCount, bs_InvalidCount, sn_InvalidCount, su_InvalidCount, ab_InvalidCount, col_InvalidCount, dd_InvalidCount, u0_InvalidCount, u1_InvalidCount, u2_InvalidCount, u3_InvalidCount, u5_InvalidCount, x_InvalidCount⟩ := Hd.excB_ok (C := fun K => He.ga K "InvalidCount") (bm := fun K => .ref (He.ga K "WrapError") :: Hd.veT) (Hd.fact c (i := 1) (j := 11) rfl rfl)
  obtain ⟨nm_InvalidWidth, q_InvalidWidth, N_InvalidWidth, bs_InvalidWidth, sn_InvalidWidth, su_InvalidWidth, ab_InvalidWidth, col_InvalidWidth, dd_InvalidWidth, u0_InvalidWidth, u1_InvalidWidth, u2_InvalidWidth, u3_InvalidWidth, u5_InvalidWidth, x_InvalidWidth⟩ := Hd.excB_ok (C := fun K => He.ga K "InvalidWidth") (bm := fun K => .ref (He.ga K "WrapError") :: Hd.veT) (Hd.fact c (i := 1) (j := 12) rfl rfl)
  obtain ⟨nm_InvalidLine, q_InvalidLine, N_InvalidLine, bs_InvalidLine, sn_InvalidLine, su_InvalidLine, ab_InvalidLine, col_InvalidLine, dd_InvalidLine, u0_InvalidLine, u1_InvalidLine, u2_InvalidLine, u3_InvalidLine, u5_InvalidLine, x_InvalidLine⟩ := Hd.excB_ok (C := fun K => He.ga K "InvalidLine") (bm := fun K => .ref (He.ga K "WrapError") :: Hd.veT) (Hd.fact c (i := 1) (j := 13) rfl rfl)
  obtain ⟨nm_InvalidLines, q_InvalidLines, N_InvalidLines, bs_InvalidLines, sn_InvalidLines, su_InvalidLines, ab_InvalidLines, col_InvalidLines, dd_InvalidLines, u0_InvalidLines, u1_InvalidLines, u2_InvalidLines, u3_InvalidLines, u5_InvalidLines, x_InvalidLines⟩ := Hd.excB_ok (C := fun K => He.ga K "InvalidLines") (bm := fun K => .ref (He.ga K "WrapError") :: Hd.veT) (Hd.fact c (i := 1) (j := 14) rfl rfl)
  obtain ⟨nm_InvalidLattice, q_InvalidLattice, N_InvalidLattice, bs_InvalidLattice, sn_InvalidLattice, su_InvalidLattice, ab_InvalidLattice, col_InvalidLattice, dd_InvalidLattice, u0_InvalidLattice, u1_InvalidLattice, u2_InvalidLattice, u3_InvalidLattice, u5_InvalidLattice, x_InvalidLattice⟩ := Hd.excB_ok (C := fun K => He.ga K "InvalidLattice") (bm := fun K => .ref (He.ga K "WrapError") :: Hd.veT) (Hd.fact c (i := 1) (j := 15) rfl rfl)
  obtain ⟨nm_InvalidTable, q_InvalidTable, N_InvalidTable, bs_InvalidTable, sn_InvalidTable, su_InvalidTable, ab_InvalidTable, col_InvalidTable, dd_InvalidTable, u0_InvalidTable, u1_InvalidTable, u2_InvalidTable, u3_InvalidTable, u5_InvalidTable, x_InvalidTable⟩ := Hd.excB_ok (C := fun K => He.ga K "InvalidTable") (bm := fun K => .ref (He.ga K "WrapError") :: Hd.veT) (Hd.fact c (i := 1) (j := 16) rfl rfl)
  obtain ⟨nm_InvalidGoal, q_InvalidGoal, N_InvalidGoal, bs_InvalidGoal, sn_InvalidGoal, su_InvalidGoal, ab_InvalidGoal, col_InvalidGoal, dd_InvalidGoal, u0_InvalidGoal, u1_InvalidGoal, u2_InvalidGoal, u3_InvalidGoal, u5_InvalidGoal, x_InvalidGoal⟩ := Hd.excB_ok (C := fun K => He.ga K "InvalidGoal") (bm := fun K => .ref (He.ga K "WrapError") :: Hd.veT) (Hd.fact c (i := 1) (j := 17) rfl rfl)
  obtain ⟨nm_InvalidPolynomial, q_InvalidPolynomial, N_InvalidPolynomial, bs_InvalidPolynomial, sn_InvalidPolynomial, su_InvalidPolynomial, ab_InvalidPolynomial, col_InvalidPolynomial, dd_InvalidPolynomial, u0_InvalidPolynomial, u1_InvalidPolynomial, u2_InvalidPolynomial, u3_InvalidPolynomial, u5_InvalidPolynomial, x_InvalidPolynomial⟩ := Hd.excB_ok (C := fun K => He.ga K "InvalidPolynomial") (bm := fun K => .ref (He.ga K "WrapError") :: Hd.veT) (Hd.fact c (i := 1) (j := 18) rfl rfl)
  obtain ⟨nm_InvalidDegrees, q_InvalidDegrees, N_InvalidDegrees, bs_InvalidDegrees, sn_InvalidDegrees, su_InvalidDegrees, ab_InvalidDegrees, col_InvalidDegrees, dd_InvalidDegrees, u0_InvalidDegrees, u1_InvalidDegrees, u2_InvalidDegrees, u3_InvalidDegrees, u5_InvalidDegrees, x_InvalidDegrees⟩ := Hd.excB_ok (C := fun K => He.ga K "InvalidDegrees") (bm := fun K => .ref (He.ga K "WrapError") :: Hd.veT) (Hd.fact c (i := 1) (j := 19) rfl rfl)
  obtain ⟨nm_InvalidItem, q_InvalidItem, N_InvalidItem, bs_InvalidItem, sn_InvalidItem, su_InvalidItem, ab_InvalidItem, col_InvalidItem, dd_InvalidItem, u0_InvalidItem, u1_InvalidItem, u2_InvalidItem, u3_InvalidItem, u5_InvalidItem, x_InvalidItem⟩ := Hd.excB_ok (C := fun K => He.ga K "InvalidItem") (bm := fun K => .ref (He.ga K "WrapError") :: Hd.veT) (Hd.fact c (i := 1) (j := 20) rfl rfl)
  obtain ⟨nm_InvalidItems, q_InvalidItems, N_InvalidItems, bs_InvalidItems, sn_InvalidItems, su_InvalidItems, ab_InvalidItems, col_InvalidItems, dd_InvalidItems, u0_InvalidItems, u1_InvalidItems, u2_InvalidItems, u3_InvalidItems, u5_InvalidItems, x_InvalidItems⟩ := Hd.excB_ok (C := fun K => He.ga K "InvalidItems") (bm := fun K => .ref (He.ga K "WrapError") :: Hd.veT) (Hd.fact c (i := 1) (j := 21) rfl rfl)
  obtain ⟨nm_InvalidNodes, q_InvalidNodes, N_InvalidNodes, bs_InvalidNodes, sn_InvalidNodes, su_InvalidNodes, ab_InvalidNodes, col_InvalidNodes, dd_InvalidNodes, u0_InvalidNodes, u1_InvalidNodes, u2_InvalidNodes, u3_InvalidNodes, u5_InvalidNodes, x_InvalidNodes⟩ := Hd.excB_ok (C := fun K => He.ga K "InvalidNodes") (bm := fun K => .ref (He.ga K "WrapError") :: Hd.veT) (Hd.fact c (i := 1) (j := 22) rfl rfl)
  obtain ⟨nm_InvalidKinds, q_InvalidKinds, N_InvalidKinds, bs_InvalidKinds, sn_InvalidKinds, su_InvalidKinds, ab_InvalidKinds, col_InvalidKinds, dd_InvalidKinds, u0_InvalidKinds, u1_InvalidKinds, u2_InvalidKinds, u3_InvalidKinds, u5_InvalidKinds, x_InvalidKinds⟩ := Hd.excB_ok (C := fun K => He.ga K "InvalidKinds") (bm := fun K => .ref (He.ga K "WrapError") :: Hd.veT) (Hd.fact c (i := 1) (j := 23) rfl rfl)
  obtain ⟨nm_InvalidName, q_InvalidName, N_InvalidName, bs_InvalidName, sn_InvalidName, su_InvalidName, ab_InvalidName, col_InvalidName, dd_InvalidName, u0_InvalidName, u1_InvalidName, u2_InvalidName, u3_InvalidName, u5_InvalidName, x_InvalidName⟩ := Hd.excB_ok (C := fun K => He.ga K "InvalidName") (bm := fun K => .ref (He.ga K "WrapError") :: Hd.veT) (Hd.fact c (i := 1) (j := 24) rfl rfl)
  obtain ⟨nm_InvalidTree, q_InvalidTree, N_InvalidTree, bs_InvalidTree, sn_InvalidTree, su_InvalidTree, ab_InvalidTree, col_InvalidTree, dd_InvalidTree, u0_InvalidTree, u1_InvalidTree, u2_InvalidTree, u3_InvalidTree, u5_InvalidTree, x_InvalidTree⟩ := Hd.excB_ok (C := fun K => He.ga K "InvalidTree") (bm := fun K => .ref (He.ga K "WrapError") :: Hd.veT) (Hd.fact c (i := 2) (j := 0) rfl rfl)
  obtain ⟨nm_InvalidContext, q_InvalidContext, N_InvalidContext, bs_InvalidContext, sn_InvalidContext, su_InvalidContext, ab_InvalidContext, col_InvalidContext, dd_InvalidContext, u0_InvalidContext, u1_InvalidContext, u2_InvalidContext, u3_InvalidContext, u5_InvalidContext, x_InvalidContext⟩ := Hd.excB_ok (C := fun K => He.ga K "InvalidContext") (bm := fun K => .ref (He.ga K "WrapError") :: Hd.veT) (Hd.fact c (i := 2) (j := 1) rfl rfl)
  obtain ⟨nm_InvalidPattern, q_InvalidPattern, N_InvalidPattern, bs_InvalidPattern, sn_InvalidPattern, su_InvalidPattern, ab_InvalidPattern, col_InvalidPattern, dd_InvalidPattern, u0_InvalidPattern, u1_InvalidPattern, u2_InvalidPattern, u3_InvalidPattern, u5_InvalidPattern, x_InvalidPattern⟩ := Hd.excB_ok (C := fun K => He.ga K "InvalidPattern") (bm := fun K => .ref (He.ga K "WrapError") :: Hd.veT) (Hd.fact c (i := 2) (j := 2) rfl rfl)
  obtain ⟨nm_InvalidPlace, q_InvalidPlace, N_InvalidPlace, bs_InvalidPlace, sn_InvalidPlace, su_InvalidPlace, ab_InvalidPlace, col_InvalidPlace, dd_InvalidPlace, u0_InvalidPlace, u1_InvalidPlace, u2_InvalidPlace, u3_InvalidPlace, u5_InvalidPlace, x_InvalidPlace⟩ := Hd.excB_ok (C := fun K => He.ga K "InvalidPlace") (bm := fun K => .ref (He.ga K "WrapError") :: Hd.veT) (Hd.fact c (i := 2) (j := 3) rfl rfl)
  obtain ⟨nm_InvalidStandings, q_InvalidStandings, N_InvalidStandings, bs_InvalidStandings, sn_InvalidStandings, su_InvalidStandings, ab_InvalidStandings, col_InvalidStandings, dd_InvalidStandings, u0_InvalidStandings, u1_InvalidStandings, u2_InvalidStandings, u3_InvalidStandings, u5_InvalidStandings, x_InvalidStandings⟩ := Hd.excB_ok (C := fun K => He.ga K "InvalidStandings") (bm := fun K => .ref (He.ga K "WrapError") :: Hd.veT) (Hd.fact c (i := 2) (j := 4) rfl rfl)
  obtain ⟨nm_InvalidBook, q_InvalidBook, N_InvalidBook, bs_InvalidBook, sn_InvalidBook, su_InvalidBook, ab_InvalidBook, col_InvalidBook, dd_InvalidBook, u0_InvalidBook, u1_InvalidBook, u2_InvalidBook, u3_InvalidBook, u5_InvalidBook, x_InvalidBook⟩ := Hd.excB_ok (C := fun K => He.ga K "InvalidBook") (bm := fun K => .ref (He.ga K "WrapError") :: Hd.veT) (Hd.fact c (i := 2) (j := 5) rfl rfl)
  obtain ⟨nm_InvalidText, q_InvalidText, N_InvalidText, bs_InvalidText, sn_InvalidText, su_InvalidText, ab_InvalidText, col_InvalidText, dd_InvalidText, u0_InvalidText, u1_InvalidText, u2_InvalidText, u3_InvalidText, u5_InvalidText, x_InvalidText⟩ := Hd.excB_ok (C := fun K => He.ga K "InvalidText") (bm := fun K => .ref (He.ga K "WrapError") :: Hd.veT) (Hd.fact c (i := 2) (j := 6) rfl rfl)
  obtain ⟨nm_InvalidCounts, q_InvalidCounts, N_InvalidCounts, bs_InvalidCounts, sn_InvalidCounts, su_InvalidCounts, ab_InvalidCounts, col_InvalidCounts, dd_InvalidCounts, u0_InvalidCounts, u1_InvalidCounts, u2_InvalidCounts, u3_InvalidCounts, u5_InvalidCounts, x_InvalidCounts⟩ := Hd.excB_ok (C := fun K => He.ga K "InvalidCounts") (bm := fun K => .ref (He.ga K "WrapError") :: Hd.veT) (Hd.fact c (i := 2) (j := 7) rfl rfl)
  obtain ⟨nm_InvalidRules, q_InvalidRules, N_InvalidRules, bs_InvalidRules, sn_InvalidRules, su_InvalidRules, ab_InvalidRules, col_InvalidRules, dd_InvalidRules, u0_InvalidRules, u1_InvalidRules, u2_InvalidRules, u3_InvalidRules, u5_InvalidRules, x_InvalidRules⟩ := Hd.excB_ok (C := fun K => He.ga K "InvalidRules") (bm := fun K => .ref (He.ga K "WrapError") :: Hd.veT) (Hd.fact c (i := 2) (j := 8) rfl rfl)
  obtain ⟨nm_InvalidEnds, q_InvalidEnds, N_InvalidEnds, bs_InvalidEnds, sn_InvalidEnds, su_InvalidEnds, ab_InvalidEnds, col_InvalidEnds, dd_InvalidEnds, u0_InvalidEnds, u1_InvalidEnds, u2_InvalidEnds, u3_InvalidEnds, u5_InvalidEnds, x_InvalidEnds⟩ := Hd.excB_ok (C := fun K => He.ga K "InvalidEnds") (bm := fun K => .ref (He.ga K "WrapError") :: Hd.veT) (Hd.fact c (i := 2) (j := 9) rfl rfl)
  obtain ⟨nm_InvalidProgram, q_InvalidProgram, N_InvalidProgram, bs_InvalidProgram, sn_InvalidProgram, su_InvalidProgram, ab_InvalidProgram, col_InvalidProgram, dd_InvalidProgram, u0_InvalidProgram, u1_InvalidProgram, u2_InvalidProgram, u3_InvalidProgram, u5_InvalidProgram, x_InvalidProgram⟩ := Hd.excB_ok (C := fun K => He.ga K "InvalidProgram") (bm := fun K => .ref (He.ga K "WrapError") :: Hd.veT) (Hd.fact c (i := 2) (j := 10) rfl rfl)
  obtain ⟨nm_InvalidOther, q_InvalidOther, N_InvalidOther, bs_InvalidOther, sn_InvalidOther, su_InvalidOther, ab_InvalidOther, col_InvalidOther, dd_InvalidOther, u0_InvalidOther, u1_InvalidOther, u2_InvalidOther, u3_InvalidOther, u5_InvalidOther, x_InvalidOther⟩ := Hd.excB_ok (C := fun K => He.ga K "InvalidOther") (bm := fun K => .ref (He.ga K "WrapError") :: Hd.veT) (Hd.fact c (i := 2) (j := 11) rfl rfl)
  obtain ⟨nm_InvalidStanding, q_InvalidStanding, N_InvalidStanding, bs_InvalidStanding, sn_InvalidStanding, su_InvalidStanding, ab_InvalidStanding, col_InvalidStanding, dd_InvalidStanding, u0_InvalidStanding, u1_InvalidStanding, u2_InvalidStanding, u3_InvalidStanding, u5_InvalidStanding, x_InvalidStanding⟩ := Hd.excB_ok (C := fun K => He.ga K "InvalidStanding") (bm := fun K => .ref (He.ga K "WrapError") :: Hd.veT) (Hd.fact c (i := 2) (j := 12) rfl rfl)
  obtain ⟨nm_InvalidLadder, q_InvalidLadder, N_InvalidLadder, bs_InvalidLadder, sn_InvalidLadder, su_InvalidLadder, ab_InvalidLadder, col_InvalidLadder, dd_InvalidLadder, u0_InvalidLadder, u1_InvalidLadder, u2_InvalidLadder, u3_InvalidLadder, u5_InvalidLadder, x_InvalidLadder⟩ := Hd.excB_ok (C := fun K => He.ga K "InvalidLadder") (bm := fun K => .ref (He.ga K "WrapError") :: Hd.veT) (Hd.fact c (i := 2) (j := 13) rfl rfl)
  obtain ⟨nm_InvalidCode, q_InvalidCode, N_InvalidCode, bs_InvalidCode, sn_InvalidCode, su_InvalidCode, ab_InvalidCode, col_InvalidCode, dd_InvalidCode, u0_InvalidCode, u1_InvalidCode, u2_InvalidCode, u3_InvalidCode, u5_InvalidCode, x_InvalidCode⟩ := Hd.excB_ok (C := fun K => He.ga K "InvalidCode") (bm := fun K => .ref (He.ga K "WrapError") :: Hd.veT) (Hd.fact c (i := 2) (j := 14) rfl rfl)
  obtain ⟨nm_InvalidAnswers, q_InvalidAnswers, N_InvalidAnswers, bs_InvalidAnswers, sn_InvalidAnswers, su_InvalidAnswers, ab_InvalidAnswers, col_InvalidAnswers, dd_InvalidAnswers, u0_InvalidAnswers, u1_InvalidAnswers, u2_InvalidAnswers, u3_InvalidAnswers, u5_InvalidAnswers, x_InvalidAnswers⟩ := Hd.excB_ok (C := fun K => He.ga K "InvalidAnswers") (bm := fun K => .ref (He.ga K "WrapError") :: Hd.veT) (Hd.fact c (i := 2) (j := 15) rfl rfl)
  obtain ⟨nm_InvalidClaim, q_InvalidClaim, N_InvalidClaim, bs_InvalidClaim, sn_InvalidClaim, su_InvalidClaim, ab_InvalidClaim, col_InvalidClaim, dd_InvalidClaim, u0_InvalidClaim, u1_InvalidClaim, u2_InvalidClaim, u3_InvalidClaim, u5_InvalidClaim, x_InvalidClaim⟩ := Hd.excB_ok (C := fun K => He.ga K "InvalidClaim") (bm := fun K => .ref (He.ga K "WrapError") :: Hd.veT) (Hd.fact c (i := 2) (j := 16) rfl rfl)
  obtain ⟨Zoc_TooMany, Zod_TooMany, Zsl_TooMany, ZdV_TooMany, ZkV_TooMany, Zdc_TooMany, Zpm_TooMany, Zan_TooMany, Zcda_TooMany, Zcc_TooMany, Zct_TooMany, Zccl_TooMany, Zcl_TooMany, Zcdd_TooMany, Zcld_TooMany, Zvs_TooMany, Zccs_TooMany, Zcsl_TooMany, Zf_TooMany, Ztf_TooMany, Zl_TooMany, Zco_TooMany, Zlcd_TooMany, Zhvs_TooMany, Zhf_TooMany, Zlcc_TooMany, Zn_TooMany, Zy_TooMany⟩ := Hd.Df.ks_get (file := (PySem.Challenge.rw_everywrap_k00_errors.prog.main.file : Str)) (df := false) (C := fun K => He.ga K "TooMany") (Hd.dfn c (i := 17) rfl) rfl (Hd.fact c (i := 2) (j := 17) rfl rfl)
  obtain rfl := Zn_TooMany rfl
  obtain ⟨Zoc_Unread, Zod_Unread, Zsl_Unread, ZdV_Unread, ZkV_Unread, Zdc_Unread, Zpm_Unread, Zan_Unread, Zcda_Unread, Zcc_Unread, Zct_Unread, Zccl_Unread, Zcl_Unread, Zcdd_Unread, Zcld_Unread, Zvs_Unread, Zccs_Unread, Zcsl_Unread, Zf_Unread, Ztf_Unread, Zl_Unread, Zco_Unread, Zlcd_Unread, Zhvs_Unread, Zhf_Unread, Zlcc_Unread, Zn_Unread, Zy_Unread⟩ := Hd.Df.ks_get (file := (PySem.Challenge.rw_everywrap_k00_errors.prog.main.file : Str)) (df := false) (C := fun K => He.ga K "Unread") (Hd.dfn c (i := 18) rfl) rfl (Hd.fact c (i := 2) (j := 18) rfl rfl)
  obtain rfl := Zn_Unread rfl
  obtain ⟨Zoc_NotWhole, Zod_NotWhole, Zsl_NotWhole, ZdV_NotWhole, ZkV_NotWhole, Zdc_NotWhole, Zpm_NotWhole, Zan_NotWhole, Zcda_NotWhole, Zcc_NotWhole, Zct_NotWhole, Zccl_NotWhole, Zcl_NotWhole, Zcdd_NotWhole, Zcld_NotWhole, Zvs_NotWhole, Zccs_NotWhole, Zcsl_NotWhole, Zf_NotWhole, Ztf_NotWhole, Zl_NotWhole, Zco_NotWhole, Zlcd_NotWhole, Zhvs_NotWhole, Zhf_NotWhole, Zlcc_NotWhole, Zn_NotWhole, Zy_NotWhole⟩ := Hd.Df.ks_get (file := (PySem.Challenge.rw_everywrap_k00_errors.prog.main.file : Str)) (df := false) (C := fun K => He.ga K "NotWhole") (Hd.dfn c (i := 19) rfl) rfl (Hd.fact c (i := 2) (j := 19) rfl rfl)
  obtain rfl := Zn_NotWhole rfl
  obtain ⟨Zoc_Rest, Zod_Rest, Zsl_Rest, ZdV_Rest, ZkV_Rest, Zdc_Rest, Zpm_Rest, Zan_Rest, Zcda_Rest, Zcc_Rest, Zct_Rest, Zccl_Rest, Zcl_Rest, Zcdd_Rest, Zcld_Rest, Zvs_Rest, Zccs_Rest, Zcsl_Rest, Zf_Rest, Ztf_Rest, Zl_Rest, Zco_Rest, Zlcd_Rest, Zhvs_Rest, Zhf_Rest, Zlcc_Rest, Zn_Rest, Zy_Rest⟩ := Hd.Df.ks_get (file := (PySem.Challenge.rw_everywrap_k00_errors.prog.main.file : Str)) (df := false) (C := fun K => He.ga K "Rest") (Hd.dfn c (i := 20) rfl) rfl (Hd.fact c (i := 2) (j := 20) rfl rfl)
  obtain rfl := Zn_Rest rfl
  obtain ⟨Zoc_Apart, Zod_Apart, Zsl_Apart, ZdV_Apart, ZkV_Apart, Zdc_Apart, Zpm_Apart, Zan_Apart, Zcda_Apart, Zcc_Apart, Zct_Apart, Zccl_Apart, Zcl_Apart, Zcdd_Apart, Zcld_Apart, Zvs_Apart, Zccs_Apart, Zcsl_Apart, Zf_Apart, Ztf_Apart, Zl_Apart, Zco_Apart, Zlcd_Apart, Zhvs_Apart, Zhf_Apart, Zlcc_Apart, Zn_Apart, Zy_Apart⟩ := Hd.Df.ks_get (file := (PySem.Challenge.rw_everywrap_k00_errors.prog.main.file : Str)) (df := false) (C := fun K => He.ga K "Apart") (Hd.dfn c (i := 21) rfl) rfl (Hd.fact c (i := 2) (j := 21) rfl rfl)
  obtain rfl := Zn_Apart rfl
  obtain ⟨Zoc_Unlike, Zod_Unlike, Zsl_Unlike, ZdV_Unlike, ZkV_Unlike, Zdc_Unlike, Zpm_Unlike, Zan_Unlike, Zcda_Unlike, Zcc_Unlike, Zct_Unlike, Zccl_Unlike, Zcl_Unlike, Zcdd_Unlike, Zcld_Unlike, Zvs_Unlike, Zccs_Unlike, Zcsl_Unlike, Zf_Unlike, Ztf_Unlike, Zl_Unlike, Zco_Unlike, Zlcd_Unlike, Zhvs_Unlike, Zhf_Unlike, Zlcc_Unlike, Zn_Unlike, Zy_Unlike⟩ := Hd.Df.ks_get (file := (PySem.Challenge.rw_everywrap_k00_errors.prog.main.file : Str)) (df := false) (C := fun K => He.ga K "Unlike") (Hd.dfn c (i := 22) rfl) rfl (Hd.fact c (i := 2) (j := 22) rfl rfl)
  obtain rfl := Zn_Unlike rfl
  obtain ⟨Zoc_Growing, Zod_Growing, Zsl_Growing, ZdV_Growing, ZkV_Growing, Zdc_Growing, Zpm_Growing, Zan_Growing, Zcda_Growing, Zcc_Growing, Zct_Growing, Zccl_Growing, Zcl_Growing, Zcdd_Growing, Zcld_Growing, Zvs_Growing, Zccs_Growing, Zcsl_Growing, Zf_Growing, Ztf_Growing, Zl_Growing, Zco_Growing, Zlcd_Growing, Zhvs_Growing, Zhf_Growing, Zlcc_Growing, Zn_Growing, Zy_Growing⟩ := Hd.Df.ks_get (file := (PySem.Challenge.rw_everywrap_k00_errors.prog.main.file : Str)) (df := false) (C := fun K => He.ga K "Growing") (Hd.dfn c (i := 23) rfl) rfl (Hd.fact c (i := 2) (j := 23) rfl rfl)
  obtain rfl := Zn_Growing rfl
  obtain ⟨Zoc_Missing, Zod_Missing, Zsl_Missing, ZdV_Missing, ZkV_Missing, Zdc_Missing, Zpm_Missing, Zan_Missing, Zcda_Missing, Zcc_Missing, Zct_Missing, Zccl_Missing, Zcl_Missing, Zcdd_Missing, Zcld_Missing, Zvs_Missing, Zccs_Missing, Zcsl_Missing, Zf_Missing, Ztf_Missing, Zl_Missing, Zco_Missing, Zlcd_Missing, Zhvs_Missing, Zhf_Missing, Zlcc_Missing, Zn_Missing, Zy_Missing⟩ := Hd.Df.ks_get (file := (PySem.Challenge.rw_everywrap_k00_errors.prog.main.file : Str)) (df := false) (C := fun K => He.ga K "Missing") (Hd.dfn c (i := 24) rfl) rfl (Hd.fact c (i := 2) (j := 24) rfl rfl)
  obtain rfl := Zn_Missing rfl
  obtain ⟨Zoc_Taken, Zod_Taken, Zsl_Taken, ZdV_Taken, ZkV_Taken, Zdc_Taken, Zpm_Taken, Zan_Taken, Zcda_Taken, Zcc_Taken, Zct_Taken, Zccl_Taken, Zcl_Taken, Zcdd_Taken, Zcld_Taken, Zvs_Taken, Zccs_Taken, Zcsl_Taken, Zf_Taken, Ztf_Taken, Zl_Taken, Zco_Taken, Zlcd_Taken, Zhvs_Taken, Zhf_Taken, Zlcc_Taken, Zn_Taken, Zy_Taken⟩ := Hd.Df.ks_get (file := (PySem.Challenge.rw_everywrap_k00_errors.prog.main.file : Str)) (df := false) (C := fun K => He.ga K "Taken") (Hd.dfn c (i := 25) rfl) rfl (Hd.fact c (i := 3) (j := 0) rfl rfl)
  obtain rfl := Zn_Taken rfl
  obtain ⟨Zoc_InUse, Zod_InUse, Zsl_InUse, ZdV_InUse, ZkV_InUse, Zdc_InUse, Zpm_InUse, Zan_InUse, Zcda_InUse, Zcc_InUse, Zct_InUse, Zccl_InUse, Zcl_InUse, Zcdd_InUse, Zcld_InUse, Zvs_InUse, Zccs_InUse, Zcsl_InUse, Zf_InUse, Ztf_InUse, Zl_InUse, Zco_InUse, Zlcd_InUse, Zhvs_InUse, Zhf_InUse, Zlcc_InUse, Zn_InUse, Zy_InUse⟩ := Hd.Df.ks_get (file := (PySem.Challenge.rw_everywrap_k00_errors.prog.main.file : Str)) (df := false) (C := fun K => He.ga K "InUse") (Hd.dfn c (i := 26) rfl) rfl (Hd.fact c (i := 3) (j := 1) rfl rfl)
  obtain rfl := Zn_InUse rfl
  obtain ⟨Zoc_NothingToUndo, Zod_NothingToUndo, Zsl_NothingToUndo, ZkV_NothingToUndo, Zdc_NothingToUndo, Zpm_NothingToUndo, Zan_NothingToUndo, Zcd_NothingToUndo, Zct_NothingToUndo, Zl_NothingToUndo, Zco_NothingToUndo, _⟩ := Hd.Df.get (Hd.dfn c (i := 27) rfl) rfl (Hd.fact c (i := 3) (j := 2) rfl rfl)
  obtain ⟨Zcda_NothingToUndo, Zecd_NothingToUndo⟩ : ∃ a, Zcd_NothingToUndo = .ref a := by
    cases Zcd_NothingToUndo with
    | ref a => exact ⟨a, rfl⟩
    | _ => cases Zco_NothingToUndo
  subst Zecd_NothingToUndo
  obtain ⟨Zoc_NothingToRedo, Zod_NothingToRedo, Zsl_NothingToRedo, ZkV_NothingToRedo, Zdc_NothingToRedo, Zpm_NothingToRedo, Zan_NothingToRedo, Zcd_NothingToRedo, Zct_NothingToRedo, Zl_NothingToRedo, Zco_NothingToRedo, _⟩ := Hd.Df.get (Hd.dfn c (i := 28) rfl) rfl (Hd.fact c (i := 3) (j := 3) rfl rfl)
  obtain ⟨Zcda_NothingToRedo, Zecd_NothingToRedo⟩ : ∃ a, Zcd_NothingToRedo = .ref a := by
    cases Zcd_NothingToRedo with
    | ref a => exact ⟨a, rfl⟩
    | _ => cases Zco_NothingToRedo
  subst Zecd_NothingToRedo
  have a_law_box : PySem.W.nsIn K mainGlobals "_law_box" = some (some (.ref (He.ga K "_law_box"))) := (of_decide_eq_true (Hd.fact c (i := 3) (j := 4) rfl rfl))
  have a_law_take : PySem.W.nsIn K mainGlobals "_law_take" = some (some (.ref (He.ga K "_law_take"))) := (of_decide_eq_true (Hd.fact c (i := 3) (j := 5) rfl rfl))
  have a_law_cell : PySem.W.nsIn K mainGlobals "_law_cell" = some (some (.ref (He.ga K "_law_cell"))) := (of_decide_eq_true (Hd.fact c (i := 3) (j := 6) rfl rfl))
  have a_law_same : PySem.W.nsIn K mainGlobals "_law_same" = some (some (.ref (He.ga K "_law_same"))) := (of_decide_eq_true (Hd.fact c (i := 3) (j := 7) rfl rfl))
  have a_law_mixed : PySem.W.nsIn K mainGlobals "_law_mixed" = some (some (.ref (He.ga K "_law_mixed"))) := (of_decide_eq_true (Hd.fact c (i := 3) (j := 8) rfl rfl))
  have a_law_anything : PySem.W.nsIn K mainGlobals "_law_anything" = some (some (.ref (He.ga K "_law_anything"))) := (of_decide_eq_true (Hd.fact c (i := 3) (j := 9) rfl rfl))
  have a_law_grown : PySem.W.nsIn K mainGlobals "_law_grown" = some (some (.ref (He.ga K "_law_grown"))) := (of_decide_eq_true (Hd.fact c (i := 3) (j := 10) rfl rfl))
  have a_law_still : PySem.W.nsIn K mainGlobals "_law_still" = some (some (.ref (He.ga K "_law_still"))) := (of_decide_eq_true (Hd.fact c (i := 3) (j := 11) rfl rfl))
  have a_law_made_0 : PySem.W.nsIn K mainGlobals "_law_made_0" = some (some (.ref (He.ga K "_law_made_0"))) := (of_decide_eq_true (Hd.fact c (i := 3) (j := 12) rfl rfl))
  have a_law_made_1 : PySem.W.nsIn K mainGlobals "_law_made_1" = some (some (.ref (He.ga K "_law_made_1"))) := (of_decide_eq_true (Hd.fact c (i := 3) (j := 13) rfl rfl))
  have a_law_classes : PySem.W.nsIn K mainGlobals "_law_classes" = some (some (.ref (He.ga K "_law_classes"))) := (of_decide_eq_true (Hd.fact c (i := 3) (j := 14) rfl rfl))
  have a_law_read : PySem.W.nsIn K mainGlobals "_law_read" = some (some (.ref (He.ga K "_law_read"))) := (of_decide_eq_true (Hd.fact c (i := 3) (j := 15) rfl rfl))
  have a_law_raise : PySem.W.nsIn K mainGlobals "_law_raise" = some (some (.ref (He.ga K "_law_raise"))) := (of_decide_eq_true (Hd.fact c (i := 3) (j := 16) rfl rfl))
  have a_law_raised : PySem.W.nsIn K mainGlobals "_law_raised" = some (some (.ref (He.ga K "_law_raised"))) := (of_decide_eq_true (Hd.fact c (i := 3) (j := 17) rfl rfl))
  have a_law_class_right : PySem.W.nsIn K mainGlobals "_law_class_right" = some (some (.ref (He.ga K "_law_class_right"))) := (of_decide_eq_true (Hd.fact c (i := 3) (j := 18) rfl rfl))
  have a_law : PySem.W.nsIn K mainGlobals "law" = some (some (.ref (He.ga K "law"))) := (of_decide_eq_true (Hd.fact c (i := 3) (j := 19) rfl rfl))
  have z_isinstance : PySem.W.nsIn K mainGlobals "isinstance" = some none := (of_decide_eq_true (Hd.fact c (i := 3) (j := 20) rfl rfl))
  have z_int : PySem.W.nsIn K mainGlobals "int" = some none := (of_decide_eq_true (Hd.fact c (i := 3) (j := 21) rfl rfl))
  have z_bool : PySem.W.nsIn K mainGlobals "bool" = some none := (of_decide_eq_true (Hd.fact c (i := 3) (j := 22) rfl rfl))
  have z_str : PySem.W.nsIn K mainGlobals "str" = some none := (of_decide_eq_true (Hd.fact c (i := 3) (j := 23) rfl rfl))
  have z_list : PySem.W.nsIn K mainGlobals "list" = some none := (of_decide_eq_true (Hd.fact c (i := 3) (j := 24) rfl rfl))
  have z_tuple : PySem.W.nsIn K mainGlobals "tuple" = some none := (of_decide_eq_true (Hd.fact c (i := 4) (j := 0) rfl rfl))
  have z_dict : PySem.W.nsIn K mainGlobals "dict" = some none := (of_decide_eq_true (Hd.fact c (i := 4) (j := 1) rfl rfl))
  have z_len : PySem.W.nsIn K mainGlobals "len" = some none := (of_decide_eq_true (Hd.fact c (i := 4) (j := 2) rfl rfl))
  have z_sum : PySem.W.nsIn K mainGlobals "sum" = some none := (of_decide_eq_true (Hd.fact c (i := 4) (j := 3) rfl rfl))
  have z_range : PySem.W.nsIn K mainGlobals "range" = some none := (of_decide_eq_true (Hd.fact c (i := 4) (j := 4) rfl rfl))
  have z_abs : PySem.W.nsIn K mainGlobals "abs" = some none := (of_decide_eq_true (Hd.fact c (i := 4) (j := 5) rfl rfl))
  have z_max : PySem.W.nsIn K mainGlobals "max" = some none := (of_decide_eq_true (Hd.fact c (i := 4) (j := 6) rfl rfl))
  have z_min : PySem.W.nsIn K mainGlobals "min" = some none := (of_decide_eq_true (Hd.fact c (i := 4) (j := 7) rfl rfl))
  have aW : PySem.W.nsIn K mainGlobals "WrapError" = some (some (.ref (He.ga K "WrapError"))) := (of_decide_eq_true (Hd.fact c (i := 4) (j := 8) rfl rfl))
  have iW : PySem.W.findIn K (.ref (He.ga K "WrapError")) "__init__" = some (some (.ref (He.ma K (He.ga K "WrapError") "__init__"))) := (of_decide_eq_true (Hd.fact c (i := 4) (j := 9) rfl rfl))
  have mS : PySem.W.nsIn K mainGlobals "super" = some none := (of_decide_eq_true (Hd.fact c (i := 4) (j := 10) rfl rfl))
  have any_ : PySem.W.nsIn K cStatics "thirdparty.any" = some none := (of_decide_eq_true (Hd.fact c (i := 4) (j := 11) rfl rfl))
  have sp_ : PySem.W.specialIn K (.builtin "object.__class__") "__get__" = some (some (.builtin "getset_descriptor.__get__")) := (of_decide_eq_true (Hd.fact c (i := 4) (j := 12) rfl rfl))
  have tk_ : PySem.W.takesIn K (.builtin "object.__class__") = some true := (of_decide_eq_true (Hd.fact c (i := 4) (j := 13) rfl rfl))
  have z_VE : PySem.W.nsIn K mainGlobals "ValueError" = some none := (of_decide_eq_true (Hd.fact c (i := 4) (j := 14) rfl rfl))
  have tI : PySem.W.typeIn K (.ref (He.ma K (He.ga K "WrapError") "__init__")) = some (.type "function") := (of_decide_eq_true (Hd.fact c (i := 4) (j := 15) rfl rfl))
  have fnI : PySem.W.fnIn K (He.ma K (He.ga K "WrapError") "__init__") = true := (Hd.fact c (i := 4) (j := 16) rfl rfl)
  have alI : PySem.W.alongIn K "__init__" (.ref (He.ga K "WrapError") :: PySem.WrX.veTail) = some (some (.ref (He.ma K (He.ga K "WrapError") "__init__"))) := (of_decide_eq_true (Hd.fact c (i := 4) (j := 17) rfl rfl))
  have a_InvalidNumber : PySem.W.nsIn K mainGlobals "InvalidNumber" = some (some (.ref (He.ga K "InvalidNumber"))) := (of_decide_eq_true (Hd.fact c (i := 4) (j := 18) rfl rfl))
  have b_InvalidNumber : Hd.clsB K (He.ga K "InvalidNumber") (He.ma K (He.ga K "WrapError") "__init__") ["given"] = true := (Hd.fact c (i := 4) (j := 19) rfl rfl)
  have ne_InvalidNumber : (He.ga K "InvalidNumber") ≠ (He.ga K "WrapError") := (of_decide_eq_true (Hd.fact c (i := 4) (j := 20) rfl rfl))
  have a_InvalidNumbers : PySem.W.nsIn K mainGlobals "InvalidNumbers" = some (some (.ref (He.ga K "InvalidNumbers"))) := (of_decide_eq_true (Hd.fact c (i := 4) (j := 21) rfl rfl))
  have b_InvalidNumbers : Hd.clsB K (He.ga K "InvalidNumbers") (He.ma K (He.ga K "WrapError") "__init__") ["given"] = true := (Hd.fact c (i := 4) (j := 22) rfl rfl)
  have ne_InvalidNumbers : (He.ga K "InvalidNumbers") ≠ (He.ga K "WrapError") := (of_decide_eq_true (Hd.fact c (i := 4) (j := 23) rfl rfl))
  have a_InvalidModulus : PySem.W.nsIn K mainGlobals "InvalidModulus" = some (some (.ref (He.ga K "InvalidModulus"))) := (of_decide_eq_true (Hd.fact c (i := 4) (j := 24) rfl rfl))
  have b_InvalidModulus : Hd.clsB K (He.ga K "InvalidModulus") (He.ma K (He.ga K "WrapError") "__init__") ["given"] = true := (Hd.fact c (i := 5) (j := 0) rfl rfl)
  have ne_InvalidModulus : (He.ga K "InvalidModulus") ≠ (He.ga K "WrapError") := (of_decide_eq_true (Hd.fact c (i := 5) (j := 1) rfl rfl))
  have a_InvalidPrime : PySem.W.nsIn K mainGlobals "InvalidPrime" = some (some (.ref (He.ga K "InvalidPrime"))) := (of_decide_eq_true (Hd.fact c (i := 5) (j := 2) rfl rfl))
  have b_InvalidPrime : Hd.clsB K (He.ga K "InvalidPrime") (He.ma K (He.ga K "WrapError") "__init__") ["given"] = true := (Hd.fact c (i := 5) (j := 3) rfl rfl)
  have ne_InvalidPrime : (He.ga K "InvalidPrime") ≠ (He.ga K "WrapError") := (of_decide_eq_true (Hd.fact c (i := 5) (j := 4) rfl rfl))
  have a_InvalidRests : PySem.W.nsIn K mainGlobals "InvalidRests" = some (some (.ref (He.ga K "InvalidRests"))) := (of_decide_eq_true (Hd.fact c (i := 5) (j := 5) rfl rfl))
  have b_InvalidRests : Hd.clsB K (He.ga K "InvalidRests") (He.ma K (He.ga K "WrapError") "__init__") ["given"] = true := (Hd.fact c (i := 5) (j := 6) rfl rfl)
  have ne_InvalidRests : (He.ga K "InvalidRests") ≠ (He.ga K "WrapError") := (of_decide_eq_true (Hd.fact c (i := 5) (j := 7) rfl rfl))
  have a_InvalidBound : PySem.W.nsIn K mainGlobals "InvalidBound" = some (some (.ref (He.ga K "InvalidBound"))) := (of_decide_eq_true (Hd.fact c (i := 5) (j := 8) rfl rfl))
  have b_InvalidBound : Hd.clsB K (He.ga K "InvalidBound") (He.ma K (He.ga K "WrapError") "__init__") ["given"] = true := (Hd.fact c (i := 5) (j := 9) rfl rfl)
  have ne_InvalidBound : (He.ga K "InvalidBound") ≠ (He.ga K "WrapError") := (of_decide_eq_true (Hd.fact c (i := 5) (j := 10) rfl rfl))
  have a_InvalidCount : PySem.W.nsIn K mainGlobals "InvalidCount" = some (some (.ref (He.ga K "InvalidCount"))) := (of_decide_eq_true (Hd.fact c (i := 5) (j := 11) rfl rfl))
  have b_InvalidCount : Hd.clsB K (He.ga K "InvalidCount") (He.ma K (He.ga K "WrapError") "__init__") ["given"] = true := (Hd.fact c (i := 5) (j := 12) rfl rfl)
  have ne_InvalidCount : (He.ga K "InvalidCount") ≠ (He.ga K "WrapError") := (of_decide_eq_true (Hd.fact c (i := 5) (j := 13) rfl rfl))
  have a_InvalidWidth : PySem.W.nsIn K mainGlobals "InvalidWidth" = some (some (.ref (He.ga K "InvalidWidth"))) := (of_decide_eq_true (Hd.fact c (i := 5) (j := 14) rfl rfl))
  have b_InvalidWidth : Hd.clsB K (He.ga K "InvalidWidth") (He.ma K (He.ga K "WrapError") "__init__") ["given"] = true := (Hd.fact c (i := 5) (j := 15) rfl rfl)
  have ne_InvalidWidth : (He.ga K "InvalidWidth") ≠ (He.ga K "WrapError") := (of_decide_eq_true (Hd.fact c (i := 5) (j := 16) rfl rfl))
  have a_InvalidLine : PySem.W.nsIn K mainGlobals "InvalidLine" = some (some (.ref (He.ga K "InvalidLine"))) := (of_decide_eq_true (Hd.fact c (i := 5) (j := 17) rfl rfl))
  have b_InvalidLine : Hd.clsB K (He.ga K "InvalidLine") (He.ma K (He.ga K "WrapError") "__init__") ["given"] = true := (Hd.fact c (i := 5) (j := 18) rfl rfl)
  have ne_InvalidLine : (He.ga K "InvalidLine") ≠ (He.ga K "WrapError") := (of_decide_eq_true (Hd.fact c (i := 5) (j := 19) rfl rfl))
  have a_InvalidLines : PySem.W.nsIn K mainGlobals "InvalidLines" = some (some (.ref (He.ga K "InvalidLines"))) := (of_decide_eq_true (Hd.fact c (i := 5) (j := 20) rfl rfl))
  have b_InvalidLines : Hd.clsB K (He.ga K "InvalidLines") (He.ma K (He.ga K "WrapError") "__init__") ["given"] = true := (Hd.fact c (i := 5) (j := 21) rfl rfl)
  have ne_InvalidLines : (He.ga K "InvalidLines") ≠ (He.ga K "WrapError") := (of_decide_eq_true (Hd.fact c (i := 5) (j := 22) rfl rfl))
  have a_InvalidLattice : PySem.W.nsIn K mainGlobals "InvalidLattice" = some (some (.ref (He.ga K "InvalidLattice"))) := (of_decide_eq_true (Hd.fact c (i := 5) (j := 23) rfl rfl))
  have b_InvalidLattice : Hd.clsB K (He.ga K "InvalidLattice") (He.ma K (He.ga K "WrapError") "__init__") ["given"] = true := (Hd.fact c (i := 5) (j := 24) rfl rfl)
  have ne_InvalidLattice : (He.ga K "InvalidLattice") ≠ (He.ga K "WrapError") := (of_decide_eq_true (Hd.fact c (i := 6) (j := 0) rfl rfl))
  have a_InvalidTable : PySem.W.nsIn K mainGlobals "InvalidTable" = some (some (.ref (He.ga K "InvalidTable"))) := (of_decide_eq_true (Hd.fact c (i := 6) (j := 1) rfl rfl))
  have b_InvalidTable : Hd.clsB K (He.ga K "InvalidTable") (He.ma K (He.ga K "WrapError") "__init__") ["given"] = true := (Hd.fact c (i := 6) (j := 2) rfl rfl)
  have ne_InvalidTable : (He.ga K "InvalidTable") ≠ (He.ga K "WrapError") := (of_decide_eq_true (Hd.fact c (i := 6) (j := 3) rfl rfl))
  have a_InvalidGoal : PySem.W.nsIn K mainGlobals "InvalidGoal" = some (some (.ref (He.ga K "InvalidGoal"))) := (of_decide_eq_true (Hd.fact c (i := 6) (j := 4) rfl rfl))
  have b_InvalidGoal : Hd.clsB K (He.ga K "InvalidGoal") (He.ma K (He.ga K "WrapError") "__init__") ["given"] = true := (Hd.fact c (i := 6) (j := 5) rfl rfl)
  have ne_InvalidGoal : (He.ga K "InvalidGoal") ≠ (He.ga K "WrapError") := (of_decide_eq_true (Hd.fact c (i := 6) (j := 6) rfl rfl))
  have a_InvalidPolynomial : PySem.W.nsIn K mainGlobals "InvalidPolynomial" = some (some (.ref (He.ga K "InvalidPolynomial"))) := (of_decide_eq_true (Hd.fact c (i := 6) (j := 7) rfl rfl))
  have b_InvalidPolynomial : Hd.clsB K (He.ga K "InvalidPolynomial") (He.ma K (He.ga K "WrapError") "__init__") ["given"] = true := (Hd.fact c (i := 6) (j := 8) rfl rfl)
  have ne_InvalidPolynomial : (He.ga K "InvalidPolynomial") ≠ (He.ga K "WrapError") := (of_decide_eq_true (Hd.fact c (i := 6) (j := 9) rfl rfl))
  have a_InvalidDegrees : PySem.W.nsIn K mainGlobals "InvalidDegrees" = some (some (.ref (He.ga K "InvalidDegrees"))) := (of_decide_eq_true (Hd.fact c (i := 6) (j := 10) rfl rfl))
  have b_InvalidDegrees : Hd.clsB K (He.ga K "InvalidDegrees") (He.ma K (He.ga K "WrapError") "__init__") ["given"] = true := (Hd.fact c (i := 6) (j := 11) rfl rfl)
  have ne_InvalidDegrees : (He.ga K "InvalidDegrees") ≠ (He.ga K "WrapError") := (of_decide_eq_true (Hd.fact c (i := 6) (j := 12) rfl rfl))
  have a_InvalidItem : PySem.W.nsIn K mainGlobals "InvalidItem" = some (some (.ref (He.ga K "InvalidItem"))) := (of_decide_eq_true (Hd.fact c (i := 6) (j := 13) rfl rfl))
  have b_InvalidItem : Hd.clsB K (He.ga K "InvalidItem") (He.ma K (He.ga K "WrapError") "__init__") ["given"] = true := (Hd.fact c (i := 6) (j := 14) rfl rfl)
  have ne_InvalidItem : (He.ga K "InvalidItem") ≠ (He.ga K "WrapError") := (of_decide_eq_true (Hd.fact c (i := 6) (j := 15) rfl rfl))
  have a_InvalidItems : PySem.W.nsIn K mainGlobals "InvalidItems" = some (some (.ref (He.ga K "InvalidItems"))) := (of_decide_eq_true (Hd.fact c (i := 6) (j := 16) rfl rfl))
  have b_InvalidItems : Hd.clsB K (He.ga K "InvalidItems") (He.ma K (He.ga K "WrapError") "__init__") ["given"] = true := (Hd.fact c (i := 6) (j := 17) rfl rfl)
  have ne_InvalidItems : (He.ga K "InvalidItems") ≠ (He.ga K "WrapError") := (of_decide_eq_true (Hd.fact c (i := 6) (j := 18) rfl rfl))
  have a_InvalidNodes : PySem.W.nsIn K mainGlobals "InvalidNodes" = some (some (.ref (He.ga K "InvalidNodes"))) := (of_decide_eq_true (Hd.fact c (i := 6) (j := 19) rfl rfl))
  have b_InvalidNodes : Hd.clsB K (He.ga K "InvalidNodes") (He.ma K (He.ga K "WrapError") "__init__") ["given"] = true := (Hd.fact c (i := 6) (j := 20) rfl rfl)
  have ne_InvalidNodes : (He.ga K "InvalidNodes") ≠ (He.ga K "WrapError") := (of_decide_eq_true (Hd.fact c (i := 6) (j := 21) rfl rfl))
  have a_InvalidKinds : PySem.W.nsIn K mainGlobals "InvalidKinds" = some (some (.ref (He.ga K "InvalidKinds"))) := (of_decide_eq_true (Hd.fact c (i := 6) (j := 22) rfl rfl))
  have b_InvalidKinds : Hd.clsB K (He.ga K "InvalidKinds") (He.ma K (He.ga K "WrapError") "__init__") ["given"] = true := (Hd.fact c (i := 6) (j := 23) rfl rfl)
  have ne_InvalidKinds : (He.ga K "InvalidKinds") ≠ (He.ga K "WrapError") := (of_decide_eq_true (Hd.fact c (i := 6) (j := 24) rfl rfl))
  have a_InvalidName : PySem.W.nsIn K mainGlobals "InvalidName" = some (some (.ref (He.ga K "InvalidName"))) := (of_decide_eq_true (Hd.fact c (i := 7) (j := 0) rfl rfl))
  have b_InvalidName : Hd.clsB K (He.ga K "InvalidName") (He.ma K (He.ga K "WrapError") "__init__") ["given"] = true := (Hd.fact c (i := 7) (j := 1) rfl rfl)
  have ne_InvalidName : (He.ga K "InvalidName") ≠ (He.ga K "WrapError") := (of_decide_eq_true (Hd.fact c (i := 7) (j := 2) rfl rfl))
  have a_InvalidTree : PySem.W.nsIn K mainGlobals "InvalidTree" = some (some (.ref (He.ga K "InvalidTree"))) := (of_decide_eq_true (Hd.fact c (i := 7) (j := 3) rfl rfl))
  have b_InvalidTree : Hd.clsB K (He.ga K "InvalidTree") (He.ma K (He.ga K "WrapError") "__init__") ["given"] = true := (Hd.fact c (i := 7) (j := 4) rfl rfl)
  have ne_InvalidTree : (He.ga K "InvalidTree") ≠ (He.ga K "WrapError") := (of_decide_eq_true (Hd.fact c (i := 7) (j := 5) rfl rfl))
  have a_InvalidContext : PySem.W.nsIn K mainGlobals "InvalidContext" = some (some (.ref (He.ga K "InvalidContext"))) := (of_decide_eq_true (Hd.fact c (i := 7) (j := 6) rfl rfl))
  have b_InvalidContext : Hd.clsB K (He.ga K "InvalidContext") (He.ma K (He.ga K "WrapError") "__init__") ["given"] = true := (Hd.fact c (i := 7) (j := 7) rfl rfl)
  have ne_InvalidContext : (He.ga K "InvalidContext") ≠ (He.ga K "WrapError") := (of_decide_eq_true (Hd.fact c (i := 7) (j := 8) rfl rfl))
  have a_InvalidPattern : PySem.W.nsIn K mainGlobals "InvalidPattern" = some (some (.ref (He.ga K "InvalidPattern"))) := (of_decide_eq_true (Hd.fact c (i := 7) (j := 9) rfl rfl))
  have b_InvalidPattern : Hd.clsB K (He.ga K "InvalidPattern") (He.ma K (He.ga K "WrapError") "__init__") ["given"] = true := (Hd.fact c (i := 7) (j := 10) rfl rfl)
  have ne_InvalidPattern : (He.ga K "InvalidPattern") ≠ (He.ga K "WrapError") := (of_decide_eq_true (Hd.fact c (i := 7) (j := 11) rfl rfl))
  have a_InvalidPlace : PySem.W.nsIn K mainGlobals "InvalidPlace" = some (some (.ref (He.ga K "InvalidPlace"))) := (of_decide_eq_true (Hd.fact c (i := 7) (j := 12) rfl rfl))
  have b_InvalidPlace : Hd.clsB K (He.ga K "InvalidPlace") (He.ma K (He.ga K "WrapError") "__init__") ["given"] = true := (Hd.fact c (i := 7) (j := 13) rfl rfl)
  have ne_InvalidPlace : (He.ga K "InvalidPlace") ≠ (He.ga K "WrapError") := (of_decide_eq_true (Hd.fact c (i := 7) (j := 14) rfl rfl))
  have a_InvalidStandings : PySem.W.nsIn K mainGlobals "InvalidStandings" = some (some (.ref (He.ga K "InvalidStandings"))) := (of_decide_eq_true (Hd.fact c (i := 7) (j := 15) rfl rfl))
  have b_InvalidStandings : Hd.clsB K (He.ga K "InvalidStandings") (He.ma K (He.ga K "WrapError") "__init__") ["given"] = true := (Hd.fact c (i := 7) (j := 16) rfl rfl)
  have ne_InvalidStandings : (He.ga K "InvalidStandings") ≠ (He.ga K "WrapError") := (of_decide_eq_true (Hd.fact c (i := 7) (j := 17) rfl rfl))
  have a_InvalidBook : PySem.W.nsIn K mainGlobals "InvalidBook" = some (some (.ref (He.ga K "InvalidBook"))) := (of_decide_eq_true (Hd.fact c (i := 7) (j := 18) rfl rfl))
  have b_InvalidBook : Hd.clsB K (He.ga K "InvalidBook") (He.ma K (He.ga K "WrapError") "__init__") ["given"] = true := (Hd.fact c (i := 7) (j := 19) rfl rfl)
  have ne_InvalidBook : (He.ga K "InvalidBook") ≠ (He.ga K "WrapError") := (of_decide_eq_true (Hd.fact c (i := 7) (j := 20) rfl rfl))
  have a_InvalidText : PySem.W.nsIn K mainGlobals "InvalidText" = some (some (.ref (He.ga K "InvalidText"))) := (of_decide_eq_true (Hd.fact c (i := 7) (j := 21) rfl rfl))
  have b_InvalidText : Hd.clsB K (He.ga K "InvalidText") (He.ma K (He.ga K "WrapError") "__init__") ["given"] = true := (Hd.fact c (i := 7) (j := 22) rfl rfl)
  have ne_InvalidText : (He.ga K "InvalidText") ≠ (He.ga K "WrapError") := (of_decide_eq_true (Hd.fact c (i := 7) (j := 23) rfl rfl))
  have a_InvalidCounts : PySem.W.nsIn K mainGlobals "InvalidCounts" = some (some (.ref (He.ga K "InvalidCounts"))) := (of_decide_eq_true (Hd.fact c (i := 7) (j := 24) rfl rfl))
  have b_InvalidCounts : Hd.clsB K (He.ga K "InvalidCounts") (He.ma K (He.ga K "WrapError") "__init__") ["given"] = true := (Hd.fact c (i := 8) (j := 0) rfl rfl)
  have ne_InvalidCounts : (He.ga K "InvalidCounts") ≠ (He.ga K "WrapError") := (of_decide_eq_true (Hd.fact c (i := 8) (j := 1) rfl rfl))
  have a_InvalidRules : PySem.W.nsIn K mainGlobals "InvalidRules" = some (some (.ref (He.ga K "InvalidRules"))) := (of_decide_eq_true (Hd.fact c (i := 8) (j := 2) rfl rfl))
  have b_InvalidRules : Hd.clsB K (He.ga K "InvalidRules") (He.ma K (He.ga K "WrapError") "__init__") ["given"] = true := (Hd.fact c (i := 8) (j := 3) rfl rfl)
  have ne_InvalidRules : (He.ga K "InvalidRules") ≠ (He.ga K "WrapError") := (of_decide_eq_true (Hd.fact c (i := 8) (j := 4) rfl rfl))
  have a_InvalidEnds : PySem.W.nsIn K mainGlobals "InvalidEnds" = some (some (.ref (He.ga K "InvalidEnds"))) := (of_decide_eq_true (Hd.fact c (i := 8) (j := 5) rfl rfl))
  have b_InvalidEnds : Hd.clsB K (He.ga K "InvalidEnds") (He.ma K (He.ga K "WrapError") "__init__") ["given"] = true := (Hd.fact c (i := 8) (j := 6) rfl rfl)
  have ne_InvalidEnds : (He.ga K "InvalidEnds") ≠ (He.ga K "WrapError") := (of_decide_eq_true (Hd.fact c (i := 8) (j := 7) rfl rfl))
  have a_InvalidProgram : PySem.W.nsIn K mainGlobals "InvalidProgram" = some (some (.ref (He.ga K "InvalidProgram"))) := (of_decide_eq_true (Hd.fact c (i := 8) (j := 8) rfl rfl))
  have b_InvalidProgram : Hd.clsB K (He.ga K "InvalidProgram") (He.ma K (He.ga K "WrapError") "__init__") ["given"] = true := (Hd.fact c (i := 8) (j := 9) rfl rfl)
  have ne_InvalidProgram : (He.ga K "InvalidProgram") ≠ (He.ga K "WrapError") := (of_decide_eq_true (Hd.fact c (i := 8) (j := 10) rfl rfl))
  have a_InvalidOther : PySem.W.nsIn K mainGlobals "InvalidOther" = some (some (.ref (He.ga K "InvalidOther"))) := (of_decide_eq_true (Hd.fact c (i := 8) (j := 11) rfl rfl))
  have b_InvalidOther : Hd.clsB K (He.ga K "InvalidOther") (He.ma K (He.ga K "WrapError") "__init__") ["given"] = true := (Hd.fact c (i := 8) (j := 12) rfl rfl)
  have ne_InvalidOther : (He.ga K "InvalidOther") ≠ (He.ga K "WrapError") := (of_decide_eq_true (Hd.fact c (i := 8) (j := 13) rfl rfl))
  have a_InvalidStanding : PySem.W.nsIn K mainGlobals "InvalidStanding" = some (some (.ref (He.ga K "InvalidStanding"))) := (of_decide_eq_true (Hd.fact c (i := 8) (j := 14) rfl rfl))
  have b_InvalidStanding : Hd.clsB K (He.ga K "InvalidStanding") (He.ma K (He.ga K "WrapError") "__init__") ["given"] = true := (Hd.fact c (i := 8) (j := 15) rfl rfl)
  have ne_InvalidStanding : (He.ga K "InvalidStanding") ≠ (He.ga K "WrapError") := (of_decide_eq_true (Hd.fact c (i := 8) (j := 16) rfl rfl))
  have a_InvalidLadder : PySem.W.nsIn K mainGlobals "InvalidLadder" = some (some (.ref (He.ga K "InvalidLadder"))) := (of_decide_eq_true (Hd.fact c (i := 8) (j := 17) rfl rfl))
  have b_InvalidLadder : Hd.clsB K (He.ga K "InvalidLadder") (He.ma K (He.ga K "WrapError") "__init__") ["given"] = true := (Hd.fact c (i := 8) (j := 18) rfl rfl)
  have ne_InvalidLadder : (He.ga K "InvalidLadder") ≠ (He.ga K "WrapError") := (of_decide_eq_true (Hd.fact c (i := 8) (j := 19) rfl rfl))
  have a_InvalidCode : PySem.W.nsIn K mainGlobals "InvalidCode" = some (some (.ref (He.ga K "InvalidCode"))) := (of_decide_eq_true (Hd.fact c (i := 8) (j := 20) rfl rfl))
  have b_InvalidCode : Hd.clsB K (He.ga K "InvalidCode") (He.ma K (He.ga K "WrapError") "__init__") ["given"] = true := (Hd.fact c (i := 8) (j := 21) rfl rfl)
  have ne_InvalidCode : (He.ga K "InvalidCode") ≠ (He.ga K "WrapError") := (of_decide_eq_true (Hd.fact c (i := 8) (j := 22) rfl rfl))
  have a_InvalidAnswers : PySem.W.nsIn K mainGlobals "InvalidAnswers" = some (some (.ref (He.ga K "InvalidAnswers"))) := (of_decide_eq_true (Hd.fact c (i := 8) (j := 23) rfl rfl))
  have b_InvalidAnswers : Hd.clsB K (He.ga K "InvalidAnswers") (He.ma K (He.ga K "WrapError") "__init__") ["given"] = true := (Hd.fact c (i := 8) (j := 24) rfl rfl)
  have ne_InvalidAnswers : (He.ga K "InvalidAnswers") ≠ (He.ga K "WrapError") := (of_decide_eq_true (Hd.fact c (i := 9) (j := 0) rfl rfl))
  have a_InvalidClaim : PySem.W.nsIn K mainGlobals "InvalidClaim" = some (some (.ref (He.ga K "InvalidClaim"))) := (of_decide_eq_true (Hd.fact c (i := 9) (j := 1) rfl rfl))
  have b_InvalidClaim : Hd.clsB K (He.ga K "InvalidClaim") (He.ma K (He.ga K "WrapError") "__init__") ["given"] = true := (Hd.fact c (i := 9) (j := 2) rfl rfl)
  have ne_InvalidClaim : (He.ga K "InvalidClaim") ≠ (He.ga K "WrapError") := (of_decide_eq_true (Hd.fact c (i := 9) (j := 3) rfl rfl))
  have a_TooMany : PySem.W.nsIn K mainGlobals "TooMany" = some (some (.ref (He.ga K "TooMany"))) := (of_decide_eq_true (Hd.fact c (i := 9) (j := 4) rfl rfl))
  have i_TooMany : PySem.W.findIn K (.ref (He.ga K "TooMany")) "__init__" = some (some (.ref (He.ma K (He.ga K "TooMany") "__init__"))) := (of_decide_eq_true (Hd.fact c (i := 9) (j := 5) rfl rfl))
  have b_TooMany : Hd.clsB K (He.ga K "TooMany") (He.ma K (He.ga K "TooMany") "__init__") ["count"] = true := (Hd.fact c (i := 9) (j := 6) rfl rfl)
  have ne_TooMany : (He.ga K "TooMany") ≠ (He.ga K "WrapError") := (of_decide_eq_true (Hd.fact c (i := 9) (j := 7) rfl rfl))
  have a_Unread : PySem.W.nsIn K mainGlobals "Unread" = some (some (.ref (He.ga K "Unread"))) := (of_decide_eq_true (Hd.fact c (i := 9) (j := 8) rfl rfl))
  have i_Unread : PySem.W.findIn K (.ref (He.ga K "Unread")) "__init__" = some (some (.ref (He.ma K (He.ga K "Unread") "__init__"))) := (of_decide_eq_true (Hd.fact c (i := 9) (j := 9) rfl rfl))
  have b_Unread : Hd.clsB K (He.ga K "Unread") (He.ma K (He.ga K "Unread") "__init__") ["line"] = true := (Hd.fact c (i := 9) (j := 10) rfl rfl)
  have ne_Unread : (He.ga K "Unread") ≠ (He.ga K "WrapError") := (of_decide_eq_true (Hd.fact c (i := 9) (j := 11) rfl rfl))
  have a_NotWhole : PySem.W.nsIn K mainGlobals "NotWhole" = some (some (.ref (He.ga K "NotWhole"))) := (of_decide_eq_true (Hd.fact c (i := 9) (j := 12) rfl rfl))
  have i_NotWhole : PySem.W.findIn K (.ref (He.ga K "NotWhole")) "__init__" = some (some (.ref (He.ma K (He.ga K "NotWhole") "__init__"))) := (of_decide_eq_true (Hd.fact c (i := 9) (j := 13) rfl rfl))
  have b_NotWhole : Hd.clsB K (He.ga K "NotWhole") (He.ma K (He.ga K "NotWhole") "__init__") ["tree"] = true := (Hd.fact c (i := 9) (j := 14) rfl rfl)
  have ne_NotWhole : (He.ga K "NotWhole") ≠ (He.ga K "WrapError") := (of_decide_eq_true (Hd.fact c (i := 9) (j := 15) rfl rfl))
  have a_Rest : PySem.W.nsIn K mainGlobals "Rest" = some (some (.ref (He.ga K "Rest"))) := (of_decide_eq_true (Hd.fact c (i := 9) (j := 16) rfl rfl))
  have i_Rest : PySem.W.findIn K (.ref (He.ga K "Rest")) "__init__" = some (some (.ref (He.ma K (He.ga K "Rest") "__init__"))) := (of_decide_eq_true (Hd.fact c (i := 9) (j := 17) rfl rfl))
  have b_Rest : Hd.clsB K (He.ga K "Rest") (He.ma K (He.ga K "Rest") "__init__") ["tree"] = true := (Hd.fact c (i := 9) (j := 18) rfl rfl)
  have ne_Rest : (He.ga K "Rest") ≠ (He.ga K "WrapError") := (of_decide_eq_true (Hd.fact c (i := 9) (j := 19) rfl rfl))
  have a_Apart : PySem.W.nsIn K mainGlobals "Apart" = some (some (.ref (He.ga K "Apart"))) := (of_decide_eq_true (Hd.fact c (i := 9) (j := 20) rfl rfl))
  have i_Apart : PySem.W.findIn K (.ref (He.ga K "Apart")) "__init__" = some (some (.ref (He.ma K (He.ga K "Apart") "__init__"))) := (of_decide_eq_true (Hd.fact c (i := 9) (j := 21) rfl rfl))
  have b_Apart : Hd.clsB K (He.ga K "Apart") (He.ma K (He.ga K "Apart") "__init__") ["tree"] = true := (Hd.fact c (i := 9) (j := 22) rfl rfl)
  have ne_Apart : (He.ga K "Apart") ≠ (He.ga K "WrapError") := (of_decide_eq_true (Hd.fact c (i := 9) (j := 23) rfl rfl))
  have a_Growing : PySem.W.nsIn K mainGlobals "Growing" = some (some (.ref (He.ga K "Growing"))) := (of_decide_eq_true (Hd.fact c (i := 9) (j := 24) rfl rfl))
  have i_Growing : PySem.W.findIn K (.ref (He.ga K "Growing")) "__init__" = some (some (.ref (He.ma K (He.ga K "Growing") "__init__"))) := (of_decide_eq_true (Hd.fact c (i := 10) (j := 0) rfl rfl))
  have b_Growing : Hd.clsB K (He.ga K "Growing") (He.ma K (He.ga K "Growing") "__init__") ["name"] = true := (Hd.fact c (i := 10) (j := 1) rfl rfl)
  have ne_Growing : (He.ga K "Growing") ≠ (He.ga K "WrapError") := (of_decide_eq_true (Hd.fact c (i := 10) (j := 2) rfl rfl))
  have a_Missing : PySem.W.nsIn K mainGlobals "Missing" = some (some (.ref (He.ga K "Missing"))) := (of_decide_eq_true (Hd.fact c (i := 10) (j := 3) rfl rfl))
  have i_Missing : PySem.W.findIn K (.ref (He.ga K "Missing")) "__init__" = some (some (.ref (He.ma K (He.ga K "Missing") "__init__"))) := (of_decide_eq_true (Hd.fact c (i := 10) (j := 4) rfl rfl))
  have b_Missing : Hd.clsB K (He.ga K "Missing") (He.ma K (He.ga K "Missing") "__init__") ["name"] = true := (Hd.fact c (i := 10) (j := 5) rfl rfl)
  have ne_Missing : (He.ga K "Missing") ≠ (He.ga K "WrapError") := (of_decide_eq_true (Hd.fact c (i := 10) (j := 6) rfl rfl))
  have a_Taken : PySem.W.nsIn K mainGlobals "Taken" = some (some (.ref (He.ga K "Taken"))) := (of_decide_eq_true (Hd.fact c (i := 10) (j := 7) rfl rfl))
  have i_Taken : PySem.W.findIn K (.ref (He.ga K "Taken")) "__init__" = some (some (.ref (He.ma K (He.ga K "Taken") "__init__"))) := (of_decide_eq_true (Hd.fact c (i := 10) (j := 8) rfl rfl))
  have b_Taken : Hd.clsB K (He.ga K "Taken") (He.ma K (He.ga K "Taken") "__init__") ["name"] = true := (Hd.fact c (i := 10) (j := 9) rfl rfl)
  have ne_Taken : (He.ga K "Taken") ≠ (He.ga K "WrapError") := (of_decide_eq_true (Hd.fact c (i := 10) (j := 10) rfl rfl))
  have a_InUse : PySem.W.nsIn K mainGlobals "InUse" = some (some (.ref (He.ga K "InUse"))) := (of_decide_eq_true (Hd.fact c (i := 10) (j := 11) rfl rfl))
  have i_InUse : PySem.W.findIn K (.ref (He.ga K "InUse")) "__init__" = some (some (.ref (He.ma K (He.ga K "InUse") "__init__"))) := (of_decide_eq_true (Hd.fact c (i := 10) (j := 12) rfl rfl))
  have b_InUse : Hd.clsB K (He.ga K "InUse") (He.ma K (He.ga K "InUse") "__init__") ["name"] = true := (Hd.fact c (i := 10) (j := 13) rfl rfl)
  have ne_InUse : (He.ga K "InUse") ≠ (He.ga K "WrapError") := (of_decide_eq_true (Hd.fact c (i := 10) (j := 14) rfl rfl))
  have a_Unlike : PySem.W.nsIn K mainGlobals "Unlike" = some (some (.ref (He.ga K "Unlike"))) := (of_decide_eq_true (Hd.fact c (i := 10) (j := 15) rfl rfl))
  have i_Unlike : PySem.W.findIn K (.ref (He.ga K "Unlike")) "__init__" = some (some (.ref (He.ma K (He.ga K "Unlike") "__init__"))) := (of_decide_eq_true (Hd.fact c (i := 10) (j := 16) rfl rfl))
  have b_Unlike : Hd.clsB K (He.ga K "Unlike") (He.ma K (He.ga K "Unlike") "__init__") ["one", "other"] = true := (Hd.fact c (i := 10) (j := 17) rfl rfl)
  have ne_Unlike : (He.ga K "Unlike") ≠ (He.ga K "WrapError") := (of_decide_eq_true (Hd.fact c (i := 10) (j := 18) rfl rfl))
  have a_NothingToUndo : PySem.W.nsIn K mainGlobals "NothingToUndo" = some (some (.ref (He.ga K "NothingToUndo"))) := (of_decide_eq_true (Hd.fact c (i := 10) (j := 19) rfl rfl))
  have i_NothingToUndo : PySem.W.findIn K (.ref (He.ga K "NothingToUndo")) "__init__" = some (some (.ref (He.ma K (He.ga K "NothingToUndo") "__init__"))) := (of_decide_eq_true (Hd.fact c (i := 10) (j := 20) rfl rfl))
  have b_NothingToUndo : Hd.clsB K (He.ga K "NothingToUndo") (He.ma K (He.ga K "NothingToUndo") "__init__") [] = true := (Hd.fact c (i := 10) (j := 21) rfl rfl)
  have ne_NothingToUndo : (He.ga K "NothingToUndo") ≠ (He.ga K "WrapError") := (of_decide_eq_true (Hd.fact c (i := 10) (j := 22) rfl rfl))
  have a_NothingToRedo : PySem.W.nsIn K mainGlobals "NothingToRedo" = some (some (.ref (He.ga K "NothingToRedo"))) := (of_decide_eq_true (Hd.fact c (i := 10) (j := 23) rfl rfl))
  have i_NothingToRedo : PySem.W.findIn K (.ref (He.ga K "NothingToRedo")) "__init__" = some (some (.ref (He.ma K (He.ga K "NothingToRedo") "__init__"))) := (of_decide_eq_true (Hd.fact c (i := 10) (j := 24) rfl rfl))
  have b_NothingToRedo : Hd.clsB K (He.ga K "NothingToRedo") (He.ma K (He.ga K "NothingToRedo") "__init__") [] = true := (Hd.fact c (i := 11) (j := 0) rfl rfl)
  have ne_NothingToRedo : (He.ga K "NothingToRedo") ≠ (He.ga K "WrapError") := (of_decide_eq_true (Hd.fact c (i := 11) (j := 1) rfl rfl))
  have nd_ : List.Nodup [(He.ga K "InvalidNumber"), (He.ga K "InvalidNumbers"), (He.ga K "InvalidModulus"), (He.ga K "InvalidPrime"), (He.ga K "InvalidRests"), (He.ga K "InvalidBound"), (He.ga K "InvalidCount"), (He.ga K "InvalidWidth"), (He.ga K "InvalidLine"), (He.ga K "InvalidLines"), (He.ga K "InvalidLattice"), (He.ga K "InvalidTable"), (He.ga K "InvalidGoal"), (He.ga K "InvalidPolynomial"), (He.ga K "InvalidDegrees"), (He.ga K "InvalidItem"), (He.ga K "InvalidItems"), (He.ga K "InvalidNodes"), (He.ga K "InvalidKinds"), (He.ga K "InvalidName"), (He.ga K "InvalidTree"), (He.ga K "InvalidContext"), (He.ga K "InvalidPattern"), (He.ga K "InvalidPlace"), (He.ga K "InvalidStandings"), (He.ga K "InvalidBook"), (He.ga K "InvalidText"), (He.ga K "InvalidCounts"), (He.ga K "InvalidRules"), (He.ga K "InvalidEnds"), (He.ga K "InvalidProgram"), (He.ga K "InvalidOther"), (He.ga K "InvalidStanding"), (He.ga K "InvalidLadder"), (He.ga K "InvalidCode"), (He.ga K "InvalidAnswers"), (He.ga K "InvalidClaim"), (He.ga K "TooMany"), (He.ga K "Unread"), (He.ga K "NotWhole"), (He.ga K "Rest"), (He.ga K "Apart"), (He.ga K "Growing"), (He.ga K "Missing"), (He.ga K "Taken"), (He.ga K "InUse"), (He.ga K "Unlike"), (He.ga K "NothingToUndo"), (He.ga K "NothingToRedo")] := (of_decide_eq_true (Hd.fact c (i := 11) (j := 2) rfl rfl))
  exact all_mk X G hfa (a_law_box := a_law_box) (l_law_box := l_law_box) (c_law_box := c_law_box) (k_law_box := k_law_box) (a_law_take := a_law_take) (l_law_take := l_law_take) (c_law_take := c_law_take) (k_law_take := k_law_take) (a_law_cell := a_law_cell) (l_law_cell := l_law_cell) (c_law_cell := c_law_cell) (k_law_cell := k_law_cell) (a_law_same := a_law_same) (l_law_same := l_law_same) (c_law_same := c_law_same) (k_law_same := k_law_same) (a_law_mixed := a_law_mixed) (l_law_mixed := l_law_mixed) (c_law_mixed := c_law_mixed) (k_law_mixed := k_law_mixed) (a_law_anything := a_law_anything) (l_law_anything := l_law_anything) (c_law_anything := c_law_anything) (k_law_anything := k_law_anything) (a_law_grown := a_law_grown) (l_law_grown := l_law_grown) (c_law_grown := c_law_grown) (k_law_grown := k_law_grown) (a_law_still := a_law_still) (l_law_still := l_law_still) (c_law_still := c_law_still) (k_law_still := k_law_still) (a_law_made_0 := a_law_made_0) (l_law_made_0 := l_law_made_0) (c_law_made_0 := c_law_made_0) (k_law_made_0 := k_law_made_0) (a_law_made_1 := a_law_made_1) (l_law_made_1 := l_law_made_1) (c_law_made_1 := c_law_made_1) (k_law_made_1 := k_law_made_1) (a_law_classes := a_law_classes) (l_law_classes := l_law_classes) (c_law_classes := c_law_classes) (k_law_classes := k_law_classes) (a_law_read := a_law_read) (l_law_read := l_law_read) (c_law_read := c_law_read) (k_law_read := k_law_read) (a_law_raise := a_law_raise) (l_law_raise := l_law_raise) (c_law_raise := c_law_raise) (k_law_raise := k_law_raise) (a_law_raised := a_law_raised) (l_law_raised := l_law_raised) (c_law_raised := c_law_raised) (k_law_raised := k_law_raised) (a_law_class_right := a_law_class_right) (l_law_class_right := l_law_class_right) (c_law_class_right := c_law_class_right) (k_law_class_right := k_law_class_right) (a_law := a_law) (l_law := l_law) (c_law := c_law) (k_law := k_law) (z_isinstance := z_isinstance) (z_int := z_int) (z_bool := z_bool) (z_str := z_str) (z_list := z_list) (z_tuple := z_tuple) (z_dict := z_dict) (z_len := z_len) (z_sum := z_sum) (z_range := z_range) (z_abs := z_abs) (z_max := z_max) (z_min := z_min) (aW := aW) (xW := xW) (iW := iW) (lI := ZlW) (cI := ZcoW) (lcd := ZlcdW) (hvs := ZhvsW) (hfile := ZhfW) (lcc := ZlccW) (lT := ZlTW) (hline := rfl) (mS := mS) (top_ := by decide +kernel) (any_ := any_) (sp_ := sp_) (tk_ := tk_) (kv_ := by decide +kernel) (z_VE := z_VE) (tI := tI) (fnI := fnI) (alI := alI) (a_InvalidNumber := a_InvalidNumber) (x_InvalidNumber := x_InvalidNumber) (b_InvalidNumber := b_InvalidNumber) (ne_InvalidNumber := ne_InvalidNumber) (a_InvalidNumbers := a_InvalidNumbers) (x_InvalidNumbers := x_InvalidNumbers) (b_InvalidNumbers := b_InvalidNumbers) (ne_InvalidNumbers := ne_InvalidNumbers) (a_InvalidModulus := a_InvalidModulus) (x_InvalidModulus := x_InvalidModulus) (b_InvalidModulus := b_InvalidModulus) (ne_InvalidModulus := ne_InvalidModulus) (a_InvalidPrime := a_InvalidPrime) (x_InvalidPrime := x_InvalidPrime) (b_InvalidPrime := b_InvalidPrime) (ne_InvalidPrime := ne_InvalidPrime) (a_InvalidRests := a_InvalidRests) (x_InvalidRests := x_InvalidRests) (b_InvalidRests := b_InvalidRests) (ne_InvalidRests := ne_InvalidRests) (a_InvalidBound := a_InvalidBound) (x_InvalidBound := x_InvalidBound) (b_InvalidBound := b_InvalidBound) (ne_InvalidBound := ne_InvalidBound) (a_InvalidCount := a_InvalidCount) (x_InvalidCount := x_InvalidCount) (b_InvalidCount := b_InvalidCount) (ne_InvalidCount := ne_InvalidCount) (a_InvalidWidth := a_InvalidWidth) (x_InvalidWidth := x_InvalidWidth) (b_InvalidWidth := b_InvalidWidth) (ne_InvalidWidth := ne_InvalidWidth) (a_InvalidLine := a_InvalidLine) (x_InvalidLine := x_InvalidLine) (b_InvalidLine := b_InvalidLine) (ne_InvalidLine := ne_InvalidLine) (a_InvalidLines := a_InvalidLines) (x_InvalidLines := x_InvalidLines) (b_InvalidLines := b_InvalidLines) (ne_InvalidLines := ne_InvalidLines) (a_InvalidLattice := a_InvalidLattice) (x_InvalidLattice := x_InvalidLattice) (b_InvalidLattice := b_InvalidLattice) (ne_InvalidLattice := ne_InvalidLattice) (a_InvalidTable := a_InvalidTable) (x_InvalidTable := x_InvalidTable) (b_InvalidTable := b_InvalidTable) (ne_InvalidTable := ne_InvalidTable) (a_InvalidGoal := a_InvalidGoal) (x_InvalidGoal := x_InvalidGoal) (b_InvalidGoal := b_InvalidGoal) (ne_InvalidGoal := ne_InvalidGoal) (a_InvalidPolynomial := a_InvalidPolynomial) (x_InvalidPolynomial := x_InvalidPolynomial) (b_InvalidPolynomial := b_InvalidPolynomial) (ne_InvalidPolynomial := ne_InvalidPolynomial) (a_InvalidDegrees := a_InvalidDegrees) (x_InvalidDegrees := x_InvalidDegrees) (b_InvalidDegrees := b_InvalidDegrees) (ne_InvalidDegrees := ne_InvalidDegrees) (a_InvalidItem := a_InvalidItem) (x_InvalidItem := x_InvalidItem) (b_InvalidItem := b_InvalidItem) (ne_InvalidItem := ne_InvalidItem) (a_InvalidItems := a_InvalidItems) (x_InvalidItems := x_InvalidItems) (b_InvalidItems := b_InvalidItems) (ne_InvalidItems := ne_InvalidItems) (a_InvalidNodes := a_InvalidNodes) (x_InvalidNodes := x_InvalidNodes) (b_InvalidNodes := b_InvalidNodes) (ne_InvalidNodes := ne_InvalidNodes) (a_InvalidKinds := a_InvalidKinds) (x_InvalidKinds := x_InvalidKinds) (b_InvalidKinds := b_InvalidKinds) (ne_InvalidKinds := ne_InvalidKinds) (a_InvalidName := a_InvalidName) (x_InvalidName := x_InvalidName) (b_InvalidName := b_InvalidName) (ne_InvalidName := ne_InvalidName) (a_InvalidTree := a_InvalidTree) (x_InvalidTree := x_InvalidTree) (b_InvalidTree := b_InvalidTree) (ne_InvalidTree := ne_InvalidTree) (a_InvalidContext := a_InvalidContext) (x_InvalidContext := x_InvalidContext) (b_InvalidContext := b_InvalidContext) (ne_InvalidContext := ne_InvalidContext) (a_InvalidPattern := a_InvalidPattern) (x_InvalidPattern := x_InvalidPattern) (b_InvalidPattern := b_InvalidPattern) (ne_InvalidPattern := ne_InvalidPattern) (a_InvalidPlace := a_InvalidPlace) (x_InvalidPlace := x_InvalidPlace) (b_InvalidPlace := b_InvalidPlace) (ne_InvalidPlace := ne_InvalidPlace) (a_InvalidStandings := a_InvalidStandings) (x_InvalidStandings := x_InvalidStandings) (b_InvalidStandings := b_InvalidStandings) (ne_InvalidStandings := ne_InvalidStandings) (a_InvalidBook := a_InvalidBook) (x_InvalidBook := x_InvalidBook) (b_InvalidBook := b_InvalidBook) (ne_InvalidBook := ne_InvalidBook) (a_InvalidText := a_InvalidText) (x_InvalidText := x_InvalidText) (b_InvalidText := b_InvalidText) (ne_InvalidText := ne_InvalidText) (a_InvalidCounts := a_InvalidCounts) (x_InvalidCounts := x_InvalidCounts) (b_InvalidCounts := b_InvalidCounts) (ne_InvalidCounts := ne_InvalidCounts) (a_InvalidRules := a_InvalidRules) (x_InvalidRules := x_InvalidRules) (b_InvalidRules := b_InvalidRules) (ne_InvalidRules := ne_InvalidRules) (a_InvalidEnds := a_InvalidEnds) (x_InvalidEnds := x_InvalidEnds) (b_InvalidEnds := b_InvalidEnds) (ne_InvalidEnds := ne_InvalidEnds) (a_InvalidProgram := a_InvalidProgram) (x_InvalidProgram := x_InvalidProgram) (b_InvalidProgram := b_InvalidProgram) (ne_InvalidProgram := ne_InvalidProgram) (a_InvalidOther := a_InvalidOther) (x_InvalidOther := x_InvalidOther) (b_InvalidOther := b_InvalidOther) (ne_InvalidOther := ne_InvalidOther) (a_InvalidStanding := a_InvalidStanding) (x_InvalidStanding := x_InvalidStanding) (b_InvalidStanding := b_InvalidStanding) (ne_InvalidStanding := ne_InvalidStanding) (a_InvalidLadder := a_InvalidLadder) (x_InvalidLadder := x_InvalidLadder) (b_InvalidLadder := b_InvalidLadder) (ne_InvalidLadder := ne_InvalidLadder) (a_InvalidCode := a_InvalidCode) (x_InvalidCode := x_InvalidCode) (b_InvalidCode := b_InvalidCode) (ne_InvalidCode := ne_InvalidCode) (a_InvalidAnswers := a_InvalidAnswers) (x_InvalidAnswers := x_InvalidAnswers) (b_InvalidAnswers := b_InvalidAnswers) (ne_InvalidAnswers := ne_InvalidAnswers) (a_InvalidClaim := a_InvalidClaim) (x_InvalidClaim := x_InvalidClaim) (b_InvalidClaim := b_InvalidClaim) (ne_InvalidClaim := ne_InvalidClaim) (a_TooMany := a_TooMany) (x_TooMany := x_TooMany) (i_TooMany := i_TooMany) (lJ_TooMany := Zl_TooMany) (cJ_TooMany := Zco_TooMany) (lcdJ_TooMany := Zlcd_TooMany) (hvsJ_TooMany := Zhvs_TooMany) (hfileJ_TooMany := Zhf_TooMany) (lccJ_TooMany := Zlcc_TooMany) (hlineJ_TooMany := rfl) (b_TooMany := b_TooMany) (ne_TooMany := ne_TooMany) (a_Unread := a_Unread) (x_Unread := x_Unread) (i_Unread := i_Unread) (lJ_Unread := Zl_Unread) (cJ_Unread := Zco_Unread) (lcdJ_Unread := Zlcd_Unread) (hvsJ_Unread := Zhvs_Unread) (hfileJ_Unread := Zhf_Unread) (lccJ_Unread := Zlcc_Unread) (hlineJ_Unread := rfl) (b_Unread := b_Unread) (ne_Unread := ne_Unread) (a_NotWhole := a_NotWhole) (x_NotWhole := x_NotWhole) (i_NotWhole := i_NotWhole) (lJ_NotWhole := Zl_NotWhole) (cJ_NotWhole := Zco_NotWhole) (lcdJ_NotWhole := Zlcd_NotWhole) (hvsJ_NotWhole := Zhvs_NotWhole) (hfileJ_NotWhole := Zhf_NotWhole) (lccJ_NotWhole := Zlcc_NotWhole) (hlineJ_NotWhole := rfl) (b_NotWhole := b_NotWhole) (ne_NotWhole := ne_NotWhole) (a_Rest := a_Rest) (x_Rest := x_Rest) (i_Rest := i_Rest) (lJ_Rest := Zl_Rest) (cJ_Rest := Zco_Rest) (lcdJ_Rest := Zlcd_Rest) (hvsJ_Rest := Zhvs_Rest) (hfileJ_Rest := Zhf_Rest) (lccJ_Rest := Zlcc_Rest) (hlineJ_Rest := rfl) (b_Rest := b_Rest) (ne_Rest := ne_Rest) (a_Apart := a_Apart) (x_Apart := x_Apart) (i_Apart := i_Apart) (lJ_Apart := Zl_Apart) (cJ_Apart := Zco_Apart) (lcdJ_Apart := Zlcd_Apart) (hvsJ_Apart := Zhvs_Apart) (hfileJ_Apart := Zhf_Apart) (lccJ_Apart := Zlcc_Apart) (hlineJ_Apart := rfl) (b_Apart := b_Apart) (ne_Apart := ne_Apart) (a_Growing := a_Growing) (x_Growing := x_Growing) (i_Growing := i_Growing) (lJ_Growing := Zl_Growing) (cJ_Growing := Zco_Growing) (lcdJ_Growing := Zlcd_Growing) (hvsJ_Growing := Zhvs_Growing) (hfileJ_Growing := Zhf_Growing) (lccJ_Growing := Zlcc_Growing) (hlineJ_Growing := rfl) (b_Growing := b_Growing) (ne_Growing := ne_Growing) (a_Missing := a_Missing) (x_Missing := x_Missing) (i_Missing := i_Missing) (lJ_Missing := Zl_Missing) (cJ_Missing := Zco_Missing) (lcdJ_Missing := Zlcd_Missing) (hvsJ_Missing := Zhvs_Missing) (hfileJ_Missing := Zhf_Missing) (lccJ_Missing := Zlcc_Missing) (hlineJ_Missing := rfl) (b_Missing := b_Missing) (ne_Missing := ne_Missing) (a_Taken := a_Taken) (x_Taken := x_Taken) (i_Taken := i_Taken) (lJ_Taken := Zl_Taken) (cJ_Taken := Zco_Taken) (lcdJ_Taken := Zlcd_Taken) (hvsJ_Taken := Zhvs_Taken) (hfileJ_Taken := Zhf_Taken) (lccJ_Taken := Zlcc_Taken) (hlineJ_Taken := rfl) (b_Taken := b_Taken) (ne_Taken := ne_Taken) (a_InUse := a_InUse) (x_InUse := x_InUse) (i_InUse := i_InUse) (lJ_InUse := Zl_InUse) (cJ_InUse := Zco_InUse) (lcdJ_InUse := Zlcd_InUse) (hvsJ_InUse := Zhvs_InUse) (hfileJ_InUse := Zhf_InUse) (lccJ_InUse := Zlcc_InUse) (hlineJ_InUse := rfl) (b_InUse := b_InUse) (ne_InUse := ne_InUse) (a_Unlike := a_Unlike) (x_Unlike := x_Unlike) (i_Unlike := i_Unlike) (lJ_Unlike := Zl_Unlike) (cJ_Unlike := Zco_Unlike) (lcdJ_Unlike := Zlcd_Unlike) (hvsJ_Unlike := Zhvs_Unlike) (hfileJ_Unlike := Zhf_Unlike) (lccJ_Unlike := Zlcc_Unlike) (hlineJ_Unlike := rfl) (b_Unlike := b_Unlike) (ne_Unlike := ne_Unlike) (a_NothingToUndo := a_NothingToUndo) (x_NothingToUndo := x_NothingToUndo) (i_NothingToUndo := i_NothingToUndo) (lJ_NothingToUndo := Zl_NothingToUndo) (cJ_NothingToUndo := Zco_NothingToUndo) (b_NothingToUndo := b_NothingToUndo) (ne_NothingToUndo := ne_NothingToUndo) (a_NothingToRedo := a_NothingToRedo) (x_NothingToRedo := x_NothingToRedo) (i_NothingToRedo := i_NothingToRedo) (lJ_NothingToRedo := Zl_NothingToRedo) (cJ_NothingToRedo := Zco_NothingToRedo) (b_NothingToRedo := b_NothingToRedo) (ne_NothingToRedo := ne_NothingToRedo) (nd_ := nd_)
end
end Lk00
open PySem PySem.W PySem.Calls PyProof.Rows
set_option maxRecDepth 100000 in
set_option maxHeartbeats 0 in
theorem PySem.Challenge.cw_everywrap_k00_errors_holds : PySem.Challenge.rw_everywrap_k00_errors.Holds := by
  w_on; o_law
  refine HandSHeadRun.head_any (r := OpenLaw.row PySem.Challenge.rw_everywrap_k00_errors) (q := Lk00.qv) (H := Hd.hook 4 Lk00.fs Lk00.fnl) (ob := Lk00.ob) (M := 12000) (loose := Lk00.names) (d := HandSHeadRun.topDef (OpenLaw.row PySem.Challenge.rw_everywrap_k00_errors).prog 67) (kwd := []) Lk00.ob_eq (by kernel_rfl) (fun s => by kernel_rfl) Lk00.run (by kernel_rfl) (by kernel_rfl) (by kernel_rfl) (by rfl) (by first | assumption | decide +kernel) (by decide +kernel) ⟨rfl, rfl, rfl, rfl, rfl, by decide +kernel⟩ ?hw ?hc
  case hw => w_witness2
  case hc =>
    refine Hd.walk (l := PySem.Challenge.rw_everywrap_k00_errors) (n := 63) (k := 16) (x := "script") (CX := fun w => L2.CX PySem.Challenge.rw_everywrap_k00_errors.prog w) (sp := Lk00.sp_law) rfl (by decide) (by kernel_rfl) ⟨rfl, by decide, by decide⟩ ?F (fun K H a ns hO hS => Lk00.sp_law_ok hO hS) (fun _ _ _ _ _ z => by
      obtain ⟨_, _, _, _, _, _, _, _, _, _, _, _, z⟩ := z
      exact z.elim)
    intro w mg fa h Y G hmg0
    obtain ⟨K, KX, c⟩ := Y
    have hmg : mg ("law" : PySem.Str) = some (.ref fa) := by
      rw [← show (HandSHeadRun.topDef (OpenLaw.row PySem.Challenge.rw_everywrap_k00_errors).prog 67).name = ("law" : PySem.Str) from by kernel_rfl]
      exact hmg0
    exact ⟨K, KX, Lk00.facts KX G hmg c⟩
