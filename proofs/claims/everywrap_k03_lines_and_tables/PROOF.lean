import PyProof.Rows.All
import Wide.All
import OpenK.AllK
import Wide.FinOn
import HandS.ForMost
import HandS.ForExc
import HandS.IsInst
import HandS.TupMul
import HandS.TupAny
import HandS.Wide
import HandS.Walk
import HandS.Style
import HandS.TryMany
import HandS.ExcInit
import HandS.NoneIn
import HandS.Zip
import KE.KExcSuper
import KE.KFromBytes
import HandS.ExcSuper
import HandS.ExcField
import HandS.Defaults
import HandS.HeadWalk
import PyProof.EnumIter
import PyProof.EnumMake
import HandS.Zip0
import HandS.Iter
import HandS.Text
import HandS.Dict
import HandS.WordsDict
import PySem.Challenge.RW_everywrap_k03_lines_and_tables
section
set_option Elab.async false
set_option linter.all false
set_option maxRecDepth 100000
set_option maxHeartbeats 1000000
/-! EwA: values as data over the layer: frames, data, types of values, typed slots, typed readings. -/
namespace Ew
open PySem PySem.Spec PyProof.Rows L2

/-! ### boxes and frames -/
/-- the shape of a box of draws -/
def BxL (xs : List V) : Prop := ∃ (g : Int) (b : Bool) (c n : Int), xs = [.int g, .bl b, .int c, .int n] ∧ 0 ≤ c ∧ c < 2147483629
def BoxAt (H : Hp) (a : Addr) : Prop := ∃ xs, H a = some (.lst xs) ∧ BxL xs
/-- everything stands as it stood; the boxes at B may have turned -/
def Ex (B : Addr → Prop) (H H' : Hp) : Prop := ∀ a o, H a = some o → H' a = some o ∨ (B a ∧ BoxAt H a ∧ BoxAt H' a)
section
variable {B : Addr → Prop} {H H1 H2 H3 : Hp} {a p : Addr} {o : HO} {K : PySem.W.Frag} {xs : List V}
theorem Ex.refl (B : Addr → Prop) (H : Hp) : Ex B H H := fun _ _ h => .inl h
theorem Ex.trans (e : Ex B H1 H2) (f : Ex B H2 H3) : Ex B H1 H3 := fun a o h => by
  rcases e a o h with q | ⟨b, q1, q2⟩
  · rcases f a o q with r | ⟨b, r1, r2⟩
    · exact .inl r
    · refine .inr ⟨b, ?_, r2⟩
      obtain ⟨xs, r1, r3⟩ := r1
      rw [q] at r1; cases r1
      exact ⟨xs, h, r3⟩
  · obtain ⟨ys, q3, q4⟩ := q2
    rcases f a _ q3 with r | ⟨_, r1, r2⟩
    · exact .inr ⟨b, q1, ys, r, q4⟩
    · exact .inr ⟨b, q1, r2⟩
theorem Ex.keep (e : Ex B H1 H2) (h : H1 a = some o) (n : ¬ B a) : H2 a = some o := (e a o h).elim id fun q => absurd q.1 n
theorem Ex.keepT (e : Ex B H1 H2) (h : H1 a = some o) (n : ∀ xs, o ≠ .lst xs) : H2 a = some o := (e a o h).elim id fun q => by
  obtain ⟨_, ⟨xs, q, _⟩, _⟩ := q
  rw [h] at q; cases q
  exact absurd rfl (n xs)
theorem Ex.free (e : Ex B H1 H2) (h : H2 p = none) : H1 p = none := by
  cases q : H1 p with
  | none => rfl
  | some o =>
    rcases e p o q with r | ⟨_, _, _, r, _⟩
    · rw [r] at h; cases h
    · rw [r] at h; cases h
theorem Ex.new (h : H p = none) : Ex B H (upd H p o) := fun b u e => .inl (by rw [upd_ne (ne_of_none e h)]; exact e)
/-- an object that was not there at H1 is changed -/
theorem Ex.mut (e : Ex B H1 H2) (h : H1 p = none) : Ex B H1 (upd H2 p o) := fun b u q => by
  have nb := ne_of_none q h
  rcases e b u q with r | ⟨x, r1, r2⟩
  · exact .inl (by rw [upd_ne nb]; exact r)
  · refine .inr ⟨x, r1, ?_⟩
    obtain ⟨ys, r3, r4⟩ := r2
    exact ⟨ys, by rw [upd_ne nb]; exact r3, r4⟩
theorem Ex.box (e : Ex B H1 H2) (h : BoxAt H1 a) : BoxAt H2 a := by
  obtain ⟨xs, h1, h2⟩ := h
  rcases e a _ h1 with r | ⟨_, _, r⟩
  · exact ⟨xs, r, h2⟩
  · exact r
/-- the box itself is changed -/
theorem Ex.turn (b : B p) (h : BoxAt H p) (n : BxL xs) : Ex B H (upd H p (.lst xs)) := fun c u q => by
  by_cases e : c = p
  · subst e
    exact .inr ⟨b, h, xs, upd_same, n⟩
  · exact .inl (by rw [upd_ne e]; exact q)
theorem Ex.sqT (e : Ex B H1 H2) (h : SqT K H1 a xs) : SqT K H2 a xs := by
  rcases h with (h | ⟨o, h⟩) | h
  · exact .inl (.inl (e.keepT h fun _ z => nomatch z))
  · exact .inl (.inr ⟨o, e.keepT h fun _ z => nomatch z⟩)
  · exact .inr h
theorem Ex.sqL (e : Ex B H1 H2) (n : ¬ B a) (h : SqL K H1 a xs) : SqL K H2 a xs := by
  rcases h with (h | ⟨o, h⟩) | h
  · exact .inl (.inl (e.keep h n))
  · exact .inl (.inr ⟨o, e.keep h n⟩)
  · exact .inr h
theorem Ex.sub {B' : Addr → Prop} (e : Ex B H1 H2) (s : ∀ a, B a → B' a) : Ex B' H1 H2 := fun a o h => (e a o h).imp id fun q => ⟨s a q.1, q.2⟩
end

/-- .. and what is under construction at M may have changed -/
def Exm (M B : Addr → Prop) (H H' : Hp) : Prop := ∀ a o, H a = some o → H' a = some o ∨ (M a ∧ (∃ xs, o = .lst xs) ∧ (∃ ys, H' a = some (.lst ys)) ∧ (B a → BoxAt H a → BoxAt H' a))
section
variable {M B : Addr → Prop} {H H1 H2 H3 : Hp} {a p D : Addr} {o : HO} {K : PySem.W.Frag} {xs ys : List V}
theorem Ex.toM (e : Ex B H1 H2) (s : ∀ a, B a → M a) : Exm M B H1 H2 := fun a o h => (e a o h).imp id fun ⟨b, ⟨xs, q1, q2⟩, q3⟩ => ⟨s a b, ⟨xs, by rw [h] at q1; exact Option.some.inj q1⟩, let ⟨ys, r, _⟩ := q3; ⟨ys, r⟩, fun _ _ => q3⟩
theorem Exm.keep (e : Exm M B H1 H2) (h : H1 a = some o) (n : ¬ M a) : H2 a = some o := (e a o h).elim id fun q => absurd q.1 n
theorem Exm.keepT (e : Exm M B H1 H2) (h : H1 a = some o) (n : ∀ xs, o ≠ .lst xs) : H2 a = some o := (e a o h).elim id fun ⟨_, ⟨xs, q⟩, _⟩ => absurd q (n xs)
theorem Exm.box (e : Exm M B H1 H2) (b : B a) (h : BoxAt H1 a) : BoxAt H2 a := by
  obtain ⟨xs, h1, h2⟩ := h
  rcases e a _ h1 with r | ⟨_, _, _, r⟩
  · exact ⟨xs, r, h2⟩
  · exact r b ⟨xs, h1, h2⟩
theorem Exm.sqT (e : Exm M B H1 H2) (h : SqT K H1 a xs) : SqT K H2 a xs := by
  rcases h with (h | ⟨o, h⟩) | h
  · exact .inl (.inl (e.keepT h fun _ z => nomatch z))
  · exact .inl (.inr ⟨o, e.keepT h fun _ z => nomatch z⟩)
  · exact .inr h
theorem Exm.sqL (e : Exm M B H1 H2) (n : ¬ M a) (h : SqL K H1 a xs) : SqL K H2 a xs := by
  rcases h with (h | ⟨o, h⟩) | h
  · exact .inl (.inl (e.keep h n))
  · exact .inl (.inr ⟨o, e.keep h n⟩)
  · exact .inr h
/-- a list under construction is written -/
theorem Exm.put (m : M D) (b : ¬ B D) (h : H D = some (.lst xs)) : Exm M B H (upd H D (.lst ys)) := fun c u q => by
  by_cases e : c = D
  · subst e
    rw [h] at q; cases q
    exact .inr ⟨m, ⟨xs, rfl⟩, ⟨ys, upd_same⟩, fun z => absurd z b⟩
  · exact .inl (by rw [upd_ne e]; exact q)
end
/-- M and D -/
def ad (M : Addr → Prop) (D : Addr) : Addr → Prop := fun a => M a ∨ a = D

/-! ### data -/
def kD : Key → PyData
  | .inl i => .int i
  | .inr x => .str x
mutual
/-- the value is the data; its lists are no boxes of B -/
inductive Rp (M : Addr → Prop) (K : PySem.W.Frag) (H : Hp) : V → PyData → Prop
  | non : Rp M K H .non .none
  | bl (b : Bool) : Rp M K H (.bl b) (.bool b)
  | int (i : Int) : Rp M K H (.int i) (.int i)
  | str (x : Str) : Rp M K H (.str x) (.str x)
  | lst {a : Addr} {xs : List V} {ds : List PyData} : H a = some (.lst xs) → ¬ M a → RpA M K H xs ds → Rp M K H (.ref a) (.list ds)
  | tup {a : Addr} {xs : List V} {ds : List PyData} : SqT K H a xs → RpA M K H xs ds → Rp M K H (.ref a) (.tuple ds)
  | dic {a : Addr} {kvs : List (Key × V)} {ds : List (PyData × PyData)} : H a = some (.dK kvs) → RpK M K H kvs ds → Rp M K H (.ref a) (.dict ds)
inductive RpA (M : Addr → Prop) (K : PySem.W.Frag) (H : Hp) : List V → List PyData → Prop
  | nil : RpA M K H [] []
  | cons {v : V} {vs : List V} {d : PyData} {ds : List PyData} : Rp M K H v d → RpA M K H vs ds → RpA M K H (v :: vs) (d :: ds)
inductive RpK (M : Addr → Prop) (K : PySem.W.Frag) (H : Hp) : List (Key × V) → List (PyData × PyData) → Prop
  | nil : RpK M K H [] []
  | cons {k : Key} {v : V} {vs : List (Key × V)} {d : PyData} {ds : List (PyData × PyData)} : Rp M K H v d → RpK M K H vs ds → RpK M K H ((k, v) :: vs) ((kD k, d) :: ds)
end
section
variable {M B : Addr → Prop} {K : PySem.W.Frag} {H H' : Hp}
mutual
theorem Rp.up (e : Exm M B H H') : ∀ {v : V} {d : PyData}, Rp M K H v d → Rp M K H' v d
  | _, _, .non => .non
  | _, _, .bl b => .bl b
  | _, _, .int i => .int i
  | _, _, .str x => .str x
  | _, _, .lst h n r => .lst (e.keep h n) n (RpA.up e r)
  | _, _, .tup h r => .tup (e.sqT h) (RpA.up e r)
  | _, _, .dic h r => .dic (e.keepT h fun _ z => nomatch z) (RpK.up e r)
theorem RpA.up (e : Exm M B H H') : ∀ {v : List V} {d : List PyData}, RpA M K H v d → RpA M K H' v d
  | _, _, .nil => .nil
  | _, _, .cons h r => .cons (Rp.up e h) (RpA.up e r)
theorem RpK.up (e : Exm M B H H') : ∀ {v : List (Key × V)} {d : List (PyData × PyData)}, RpK M K H v d → RpK M K H' v d
  | _, _, .nil => .nil
  | _, _, .cons h r => .cons (Rp.up e h) (RpK.up e r)
end
theorem RpA.length : ∀ {v : List V} {d : List PyData}, RpA M K H v d → v.length = d.length
  | _, _, .nil => rfl
  | _, _, .cons _ r => by rw [List.length_cons, List.length_cons, RpA.length r]
theorem RpA.get : ∀ {v : List V} {d : List PyData} {i : Nat} {x : V}, RpA M K H v d → v[i]? = some x → ∃ y, d[i]? = some y ∧ Rp M K H x y
  | _, _, _, _, .nil, e => by simp at e
  | _, _, 0, _, .cons h _, e => by simp at e; subst e; exact ⟨_, rfl, h⟩
  | _, _, i + 1, _, .cons _ r, e => by
    obtain ⟨y, h1, h2⟩ := RpA.get (i := i) r (by simpa using e)
    exact ⟨y, by simpa using h1, h2⟩
theorem RpA.getD : ∀ {v : List V} {d : List PyData} {i : Nat} {y : PyData}, RpA M K H v d → d[i]? = some y → ∃ x, v[i]? = some x ∧ Rp M K H x y
  | _, _, _, _, .nil, e => by simp at e
  | _, _, 0, _, .cons h _, e => by simp at e; subst e; exact ⟨_, rfl, h⟩
  | _, _, i + 1, _, .cons _ r, e => by
    obtain ⟨y, h1, h2⟩ := RpA.getD (i := i) r (by simpa using e)
    exact ⟨y, by simpa using h1, h2⟩
theorem RpA.append : ∀ {v w : List V} {d e : List PyData}, RpA M K H v d → RpA M K H w e → RpA M K H (v ++ w) (d ++ e)
  | _, _, _, _, .nil, s => s
  | _, _, _, _, .cons h r, s => .cons h (RpA.append r s)
mutual
theorem Rp.weak {D : Addr} (n : H D = none) : ∀ {v : V} {d : PyData}, Rp M K H v d → Rp (ad M D) K H v d
  | _, _, .non => .non
  | _, _, .bl b => .bl b
  | _, _, .int i => .int i
  | _, _, .str x => .str x
  | _, _, .lst h q r => .lst h (fun z => z.elim q (ne_of_none h n)) (RpA.weak n r)
  | _, _, .tup h r => .tup h (RpA.weak n r)
  | _, _, .dic h r => .dic h (RpK.weak n r)
theorem RpA.weak {D : Addr} (n : H D = none) : ∀ {v : List V} {d : List PyData}, RpA M K H v d → RpA (ad M D) K H v d
  | _, _, .nil => .nil
  | _, _, .cons h r => .cons (Rp.weak n h) (RpA.weak n r)
theorem RpK.weak {D : Addr} (n : H D = none) : ∀ {v : List (Key × V)} {d : List (PyData × PyData)}, RpK M K H v d → RpK (ad M D) K H v d
  | _, _, .nil => .nil
  | _, _, .cons h r => .cons (Rp.weak n h) (RpK.weak n r)
end
mutual
theorem Rp.drop {D : Addr} : ∀ {v : V} {d : PyData}, Rp (ad M D) K H v d → Rp M K H v d
  | _, _, .non => .non
  | _, _, .bl b => .bl b
  | _, _, .int i => .int i
  | _, _, .str x => .str x
  | _, _, .lst h q r => .lst h (fun z => q (.inl z)) (RpA.drop r)
  | _, _, .tup h r => .tup h (RpA.drop r)
  | _, _, .dic h r => .dic h (RpK.drop r)
theorem RpA.drop {D : Addr} : ∀ {v : List V} {d : List PyData}, RpA (ad M D) K H v d → RpA M K H v d
  | _, _, .nil => .nil
  | _, _, .cons h r => .cons (Rp.drop h) (RpA.drop r)
theorem RpK.drop {D : Addr} : ∀ {v : List (Key × V)} {d : List (PyData × PyData)}, RpK (ad M D) K H v d → RpK M K H v d
  | _, _, .nil => .nil
  | _, _, .cons h r => .cons (Rp.drop h) (RpK.drop r)
end
end

/-! ### types of values -/
structure Typ where
  p : (M B : Addr → Prop) → V → Hp → Prop
  up : ∀ {M B : Addr → Prop} {v : V} {H H' : Hp}, Exm M B H H' → p M B v H → p M B v H'
  weak : ∀ {M B : Addr → Prop} {v : V} {H : Hp} {D : Addr}, H D = none → p M B v H → p (ad M D) B v H
  drop : ∀ {M B : Addr → Prop} {v : V} {H : Hp} {D : Addr}, p (ad M D) B v H → p M B v H
/-- just the data d -/
def dt (K : PySem.W.Frag) (d : PyData) : Typ := ⟨fun M _ v H => Rp M K H v d, fun e h => Rp.up e h, fun n h => Rp.weak n h, fun h => Rp.drop h⟩
/-- just the value v -/
def isV (w : V) : Typ := ⟨fun _ _ v _ => v = w, fun _ h => h, fun _ h => h, fun h => h⟩
/-- a box -/
def bx : Typ := ⟨fun _ B v H => ∃ p, v = .ref p ∧ B p ∧ BoxAt H p, fun e ⟨p, h1, h2, h3⟩ => ⟨p, h1, h2, e.box h2 h3⟩, fun _ h => h, fun h => h⟩
def exT {α : Type} (A : α → Typ) : Typ := ⟨fun M B v H => ∃ x, (A x).p M B v H, fun e ⟨x, h⟩ => ⟨x, (A x).up e h⟩, fun n ⟨x, h⟩ => ⟨x, (A x).weak n h⟩, fun ⟨x, h⟩ => ⟨x, (A x).drop h⟩⟩
def gd (φ : Prop) (A : Typ) : Typ := ⟨fun M B v H => φ ∧ A.p M B v H, fun e ⟨h1, h2⟩ => ⟨h1, A.up e h2⟩, fun n ⟨h1, h2⟩ => ⟨h1, A.weak n h2⟩, fun ⟨h1, h2⟩ => ⟨h1, A.drop h2⟩⟩
def anT (A C : Typ) : Typ := ⟨fun M B v H => A.p M B v H ∧ C.p M B v H, fun e ⟨h1, h2⟩ => ⟨A.up e h1, C.up e h2⟩, fun n ⟨h1, h2⟩ => ⟨A.weak n h1, C.weak n h2⟩, fun ⟨h1, h2⟩ => ⟨A.drop h1, C.drop h2⟩⟩
section
variable {M B : Addr → Prop}
/-- values by types, one by one -/
def TysV (M B : Addr → Prop) : List Typ → List V → Hp → Prop
  | [], [], _ => True
  | T :: Ts, v :: vs, H => T.p M B v H ∧ TysV M B Ts vs H
  | _, _, _ => False
theorem TysV.up {H H' : Hp} (e : Exm M B H H') : ∀ {Ts : List Typ} {vs : List V}, TysV M B Ts vs H → TysV M B Ts vs H'
  | [], [], h => h
  | T :: _, _ :: _, h => ⟨T.up e h.1, TysV.up e h.2⟩
  | [], _ :: _, h => h.elim
  | _ :: _, [], h => h.elim
theorem TysV.weak {H : Hp} {D : Addr} (n : H D = none) : ∀ {Ts : List Typ} {vs : List V}, TysV M B Ts vs H → TysV (ad M D) B Ts vs H
  | [], [], h => h
  | T :: _, _ :: _, h => ⟨T.weak n h.1, TysV.weak n h.2⟩
  | [], _ :: _, h => h.elim
  | _ :: _, [], h => h.elim
theorem TysV.drop {H : Hp} {D : Addr} : ∀ {Ts : List Typ} {vs : List V}, TysV (ad M D) B Ts vs H → TysV M B Ts vs H
  | [], [], h => h
  | T :: _, _ :: _, h => ⟨T.drop h.1, TysV.drop h.2⟩
  | [], _ :: _, h => h.elim
  | _ :: _, [], h => h.elim
theorem TysV.length {H : Hp} : ∀ {Ts : List Typ} {vs : List V}, TysV M B Ts vs H → vs.length = Ts.length
  | [], [], _ => rfl
  | _ :: _, _ :: _, h => by rw [List.length_cons, List.length_cons, TysV.length h.2]
  | [], _ :: _, h => h.elim
  | _ :: _, [], h => h.elim
theorem TysV.append {H : Hp} : ∀ {Ts Us : List Typ} {vs ws : List V}, TysV M B Ts vs H → TysV M B Us ws H → TysV M B (Ts ++ Us) (vs ++ ws) H
  | [], _, [], _, _, h => h
  | _ :: _, _, _ :: _, _, h, k => ⟨h.1, TysV.append h.2 k⟩
  | [], _, _ :: _, _, h, _ => h.elim
  | _ :: _, _, [], _, h, _ => h.elim
theorem TysV.get {H : Hp} : ∀ {Ts : List Typ} {vs : List V} {i : Nat} {T : Typ}, TysV M B Ts vs H → Ts[i]? = some T → ∃ v, vs[i]? = some v ∧ T.p M B v H
  | T :: _, v :: _, 0, _, h, e => by simp at e; subst e; exact ⟨v, rfl, h.1⟩
  | _ :: _, _ :: _, i + 1, _, h, e => by
    obtain ⟨v, h1, h2⟩ := TysV.get (i := i) h.2 (by simpa using e)
    exact ⟨v, by simpa using h1, h2⟩
  | [], [], _, _, _, e => by simp at e
  | [], _ :: _, _, _, h, _ => h.elim
  | _ :: _, [], _, _, h, _ => h.elim
theorem TysV.data {K : PySem.W.Frag} {H : Hp} : ∀ {ds : List PyData} {vs : List V}, TysV M B (ds.map (dt K)) vs H → RpA M K H vs ds
  | [], [], _ => .nil
  | _ :: _, _ :: _, h => .cons h.1 (TysV.data h.2)
  | [], _ :: _, h => h.elim
  | _ :: _, [], h => h.elim
theorem TysV.ofData {K : PySem.W.Frag} {H : Hp} : ∀ {ds : List PyData} {vs : List V}, RpA M K H vs ds → TysV M B (ds.map (dt K)) vs H
  | [], [], _ => True.intro
  | _ :: _, _ :: _, .cons h r => ⟨h, TysV.ofData r⟩

/-! ### typed slots -/
abbrev Gam := List (Option Typ)
def EnvL (M B : Addr → Prop) : Gam → L2.St → Hp → Prop
  | [], [], _ => True
  | none :: Γ, _ :: σ, H => EnvL M B Γ σ H
  | some T :: Γ, some v :: σ, H => T.p M B v H ∧ EnvL M B Γ σ H
  | _, _, _ => False
theorem EnvL.up {H H' : Hp} (e : Exm M B H H') : ∀ {Γ : Gam} {σ : L2.St}, EnvL M B Γ σ H → EnvL M B Γ σ H'
  | [], [], h => h
  | none :: Γ, _ :: σ, h => EnvL.up (Γ := Γ) e h
  | some T :: _, some _ :: _, h => ⟨T.up e h.1, EnvL.up e h.2⟩
  | [], _ :: _, h => h.elim
  | none :: _, [], h => h.elim
  | some _ :: _, [], h => h.elim
  | some _ :: _, none :: _, h => h.elim
theorem EnvL.weak {H : Hp} {D : Addr} (n : H D = none) : ∀ {Γ : Gam} {σ : L2.St}, EnvL M B Γ σ H → EnvL (ad M D) B Γ σ H
  | [], [], h => h
  | none :: Γ, _ :: σ, h => EnvL.weak (Γ := Γ) n h
  | some T :: _, some _ :: _, h => ⟨T.weak n h.1, EnvL.weak n h.2⟩
  | [], _ :: _, h => h.elim
  | none :: _, [], h => h.elim
  | some _ :: _, [], h => h.elim
  | some _ :: _, none :: _, h => h.elim
theorem EnvL.drop {H : Hp} {D : Addr} : ∀ {Γ : Gam} {σ : L2.St}, EnvL (ad M D) B Γ σ H → EnvL M B Γ σ H
  | [], [], h => h
  | none :: Γ, _ :: σ, h => EnvL.drop (Γ := Γ) h
  | some T :: _, some _ :: _, h => ⟨T.drop h.1, EnvL.drop h.2⟩
  | [], _ :: _, h => h.elim
  | none :: _, [], h => h.elim
  | some _ :: _, [], h => h.elim
  | some _ :: _, none :: _, h => h.elim
theorem EnvL.length {H : Hp} : ∀ {Γ : Gam} {σ : L2.St}, EnvL M B Γ σ H → σ.length = Γ.length
  | [], [], _ => rfl
  | none :: Γ, _ :: σ, h => by rw [List.length_cons, List.length_cons, EnvL.length (Γ := Γ) h]
  | some T :: _, some _ :: _, h => by rw [List.length_cons, List.length_cons, EnvL.length h.2]
  | [], _ :: _, h => h.elim
  | none :: _, [], h => h.elim
  | some _ :: _, [], h => h.elim
  | some _ :: _, none :: _, h => h.elim
theorem EnvL.get {H : Hp} : ∀ {Γ : Gam} {σ : L2.St} {i : Nat} {T : Typ}, EnvL M B Γ σ H → Γ[i]? = some (some T) → ∃ v, σ[i]? = some (some v) ∧ T.p M B v H
  | some T :: _, some v :: _, 0, _, h, e => by simp at e; subst e; exact ⟨v, rfl, h.1⟩
  | none :: _, _ :: _, 0, _, _, e => by simp at e
  | none :: Γ, _ :: σ, i + 1, _, h, e => by
    obtain ⟨v, h1, h2⟩ := EnvL.get (Γ := Γ) (i := i) h (by simpa using e)
    exact ⟨v, by simpa using h1, h2⟩
  | some _ :: _, some _ :: _, i + 1, _, h, e => by
    obtain ⟨v, h1, h2⟩ := EnvL.get (i := i) h.2 (by simpa using e)
    exact ⟨v, by simpa using h1, h2⟩
  | [], [], _, _, _, e => by simp at e
  | [], _ :: _, _, _, h, _ => h.elim
  | none :: _, [], _, _, h, _ => h.elim
  | some _ :: _, [], _, _, h, _ => h.elim
  | some _ :: _, none :: _, _, _, h, _ => h.elim
theorem EnvL.set {H : Hp} {T : Typ} {v : V} (hv : T.p M B v H) : ∀ {Γ : Gam} {σ : L2.St} {i : Nat}, EnvL M B Γ σ H → EnvL M B (Γ.set i (some T)) (σ.set i (some v)) H
  | [], [], _, h => by simpa using h
  | none :: Γ, s :: σ, 0, h => ⟨hv, h⟩
  | some _ :: _, some _ :: _, 0, h => ⟨hv, h.2⟩
  | none :: Γ, none :: σ, i + 1, h => EnvL.set (Γ := Γ) (i := i) hv h
  | none :: Γ, some _ :: σ, i + 1, h => EnvL.set (Γ := Γ) (i := i) hv h
  | some _ :: _, some _ :: _, i + 1, h => ⟨h.1, EnvL.set (i := i) hv h.2⟩
  | [], _ :: _, _, h => h.elim
  | none :: _, [], _, h => h.elim
  | some _ :: _, [], _, h => h.elim
  | some _ :: _, none :: _, _, h => h.elim
theorem EnvL.wipe1 {H : Hp} : ∀ {Γ : Gam} {σ : L2.St} {i : Nat}, EnvL M B Γ σ H → EnvL M B (Γ.set i none) (σ.set i none) H
  | [], [], _, h => by simpa using h
  | none :: Γ, s :: σ, 0, h => h
  | some _ :: _, some _ :: _, 0, h => h.2
  | none :: Γ, none :: σ, i + 1, h => EnvL.wipe1 (Γ := Γ) (i := i) h
  | none :: Γ, some _ :: σ, i + 1, h => EnvL.wipe1 (Γ := Γ) (i := i) h
  | some _ :: _, some _ :: _, i + 1, h => ⟨h.1, EnvL.wipe1 (i := i) h.2⟩
  | [], _ :: _, _, h => h.elim
  | none :: _, [], _, h => h.elim
  | some _ :: _, [], _, h => h.elim
  | some _ :: _, none :: _, _, h => h.elim
def wipeG (Γ : Gam) : List Nat → Gam
  | [] => Γ
  | v :: vs => (wipeG Γ vs).set v none
theorem EnvL.wipe {H : Hp} {Γ : Gam} {σ : L2.St} (h : EnvL M B Γ σ H) : ∀ vs : List Nat, EnvL M B (wipeG Γ vs) (L2.wipe σ vs) H
  | [] => h
  | _ :: vs => EnvL.wipe1 (EnvL.wipe h vs)
/-- slots may be forgotten -/
def Less : Gam → Gam → Prop
  | [], [] => True
  | none :: Γ, _ :: Δ => Less Γ Δ
  | some T :: Γ, some U :: Δ => (∀ M B v H, U.p M B v H → T.p M B v H) ∧ Less Γ Δ
  | _, _ => False
theorem EnvL.less {H : Hp} : ∀ {Γ Δ : Gam} {σ : L2.St}, Less Γ Δ → EnvL M B Δ σ H → EnvL M B Γ σ H
  | [], [], [], _, _ => True.intro
  | none :: Γ, none :: Δ, _ :: σ, l, h => EnvL.less (Γ := Γ) (Δ := Δ) l h
  | none :: Γ, some _ :: Δ, some _ :: σ, l, h => EnvL.less (Γ := Γ) (Δ := Δ) l h.2
  | some _ :: Γ, some _ :: Δ, some _ :: σ, l, h => ⟨l.1 _ _ _ _ h.1, EnvL.less (Γ := Γ) (Δ := Δ) l.2 h.2⟩
  | [], [], _ :: _, _, h => h.elim
  | [], _ :: _, _, l, _ => l.elim
  | none :: _, [], _, l, _ => l.elim
  | some _ :: _, [], _, l, _ => l.elim
  | some _ :: _, none :: _, _, l, _ => l.elim
  | none :: _, none :: _, [], _, h => h.elim
  | none :: _, some _ :: _, [], _, h => h.elim
  | none :: _, some _ :: _, none :: _, _, h => h.elim
  | some _ :: _, some _ :: _, [], _, h => h.elim
  | some _ :: _, some _ :: _, none :: _, _, h => h.elim
theorem Less.refl : ∀ (Γ : Gam), Less Γ Γ
  | [] => True.intro
  | none :: Γ => Less.refl Γ
  | some _ :: Γ => ⟨fun _ _ _ _ h => h, Less.refl Γ⟩
end
end Ew

end
section
set_option Elab.async false
set_option linter.all false
set_option maxRecDepth 100000
set_option maxHeartbeats 1000000
/-! EwB: typed readings. -/
namespace Ew
open PySem PySem.Spec PyProof.Rows L2
abbrev Sx := L2.St
theorem Exm.refl (M B : Addr → Prop) (H : Hp) : Exm M B H H := fun _ _ h => .inl h
theorem Exm.trans {M B : Addr → Prop} {H1 H2 H3 : Hp} (e : Exm M B H1 H2) (f : Exm M B H2 H3) : Exm M B H1 H3 := fun a o h => by
  rcases e a o h with q | ⟨m, ⟨xs, rfl⟩, ⟨ys, q⟩, b⟩
  · exact f a o q |>.imp id fun ⟨m, x, y, b⟩ => ⟨m, x, y, fun z1 z2 => b z1 (by obtain ⟨xs, z3, z4⟩ := z2; rw [h] at z3; cases z3; exact ⟨xs, q, z4⟩)⟩
  · rcases f a _ q with r | ⟨_, _, y, b'⟩
    · exact .inr ⟨m, ⟨xs, rfl⟩, ⟨ys, r⟩, fun z1 z2 => by
        obtain ⟨zs, z3, z4⟩ := b z1 z2
        rw [q] at z3; cases z3
        exact ⟨ys, r, z4⟩⟩
    · exact .inr ⟨m, ⟨xs, rfl⟩, y, fun z1 z2 => b' z1 (b z1 z2)⟩
/-- the world of a def's body: M no data's own, B the boxes, H0 the heap at the entry, Ω what else stands while expressions are evaluated -/
structure Wd where
  M : Addr → Prop
  B : Addr → Prop
  H0 : Hp
  Ω : Hp → Prop
  sub : ∀ a, B a → M a
  kept : ∀ {H H' : Hp}, Ex B H H' → Ω H → Ω H'
structure Cxt (W : Wd) (H : Hp) : Prop where
  box : ∀ a, W.B a → BoxAt H a
  al : ∀ a, W.M a → H a ≠ none
  ex : Ex W.B W.H0 H
  own : W.Ω H
/-- what is made at D is under construction -/
def Wd.ad (W : Wd) (D : Addr) : Wd := ⟨Ew.ad W.M D, W.B, W.H0, W.Ω, fun a h => .inl (W.sub a h), W.kept⟩
abbrev Typ.at (T : Typ) (W : Wd) (v : V) (H : Hp) : Prop := T.p W.M W.B v H
section
variable {W : Wd} {H H' : Hp} {p : Addr}
theorem Ex.toW (e : Ex W.B H H') : Exm W.M W.B H H' := e.toM W.sub
theorem Cxt.up (c : Cxt W H) (e : Ex W.B H H') : Cxt W H' := ⟨fun a h => e.box (c.box a h), fun a h z => c.al a h (e.free z), c.ex.trans e, W.kept e c.own⟩
theorem Cxt.nm (c : Cxt W H) (h : H p = none) : ¬ W.M p := fun b => c.al p b h
theorem Cxt.nb (c : Cxt W H) (h : H p = none) : ¬ W.B p := fun b => c.nm h (W.sub p b)
end
section
variable (W : Wd) (Γ : Gam)
abbrev EnvW (σ : Sx) (H : Hp) : Prop := EnvL W.M W.B Γ σ H
def Ty (te : TE) (T : Typ) : Prop := ∀ σ H, Cxt W H → EnvW W Γ σ H → ∀ Q : VK, (∀ v H1, Ex W.B H H1 → T.at W v H1 → Q v H1) → te σ H Q
def TyA (ta : TA) (Ts : List Typ) : Prop := ∀ σ H, Cxt W H → EnvW W Γ σ H → ∀ Q : List V → Hp → Prop, (∀ vs H1, Ex W.B H H1 → TysV W.M W.B Ts vs H1 → Q vs H1) → ta σ H Q
/-- a new list -/
def TyL (te : TE) (Ts : List Typ) : Prop := ∀ σ H, Cxt W H → EnvW W Γ σ H → ∀ Q : VK, (∀ p xs H1, Ex W.B H H1 → H p = none → H1 p = some (.lst xs) → TysV W.M W.B Ts xs H1 → Q (.ref p) H1) → te σ H Q
def Tt (tt : TT) (φ : Bool → Prop) : Prop := ∀ σ H, Cxt W H → EnvW W Γ σ H → ∀ Q : Bool → Hp → Prop, (∀ b H1, Ex W.B H H1 → φ b → Q b H1) → tt σ H Q
def TyS (ts : TS) (N : Sx → Hp → Prop) (R : V → Hp → Prop) (Bk Ct : Sx → Hp → Prop) : Prop := ∀ σ H, Cxt W H → EnvW W Γ σ H → ∀ D : Ends, (∀ σ' H', Exm W.M W.B H H' → N σ' H' → D.nx σ' H') → (∀ v H', R v H' → D.rt v H') →
  (∀ σ' H', Exm W.M W.B H H' → Bk σ' H' → D.bk σ' H') → (∀ σ' H', Exm W.M W.B H H' → Ct σ' H' → D.ct σ' H') → ts D σ H
def OpT (r : R2) (A C P : Typ) : Prop := ∀ u v H, Cxt W H → A.at W u H → C.at W v H → ∀ Q : VK, (∀ w H1, Ex W.B H H1 → P.at W w H1 → Q w H1) → r u v H Q
def UnT (r : V → Hp → VK → Prop) (A P : Typ) : Prop := ∀ u H, Cxt W H → A.at W u H → ∀ Q : VK, (∀ w H1, Ex W.B H H1 → P.at W w H1 → Q w H1) → r u H Q
def CbT (r : List V → Hp → VK → Prop) (As : List Typ) (P : Typ) : Prop := ∀ us H, Cxt W H → TysV W.M W.B As us H → ∀ Q : VK, (∀ w H1, Ex W.B H H1 → P.at W w H1 → Q w H1) → r us H Q
/-- a new list comes -/
def CbL (r : List V → Hp → VK → Prop) (As Ts : List Typ) : Prop := ∀ us H, Cxt W H → TysV W.M W.B As us H → ∀ Q : VK, (∀ p xs H1, Ex W.B H H1 → H p = none → H1 p = some (.lst xs) → TysV W.M W.B Ts xs H1 → Q (.ref p) H1) → r us H Q
/-- slots by their types, in a world -/
def nE : Sx → Hp → Prop := fun σ H => Cxt W H ∧ EnvW W Γ σ H
end
/-- the same but for Ω -/
structure Wd.Like (W W' : Wd) : Prop where
  m : W'.M = W.M
  b : W'.B = W.B
theorem Wd.Like.refl (W : Wd) : W.Like W := ⟨rfl, rfl⟩
theorem Wd.Like.exm {W W' : Wd} (l : W.Like W') {H H' : Hp} (e : Exm W'.M W'.B H H') : Exm W.M W.B H H' := by rw [← l.m, ← l.b]; exact e
abbrev noN : Sx → Hp → Prop := fun _ _ => False
/-- a tuple, a list of values by their types -/
def tupT (K : PySem.W.Frag) (Ts : List Typ) : Typ := ⟨fun M B v H => ∃ a xs, v = .ref a ∧ SqT K H a xs ∧ TysV M B Ts xs H, fun e ⟨a, xs, h1, h2, h3⟩ => ⟨a, xs, h1, e.sqT h2, h3.up e⟩, fun n ⟨a, xs, h1, h2, h3⟩ => ⟨a, xs, h1, h2, h3.weak n⟩, fun ⟨a, xs, h1, h2, h3⟩ => ⟨a, xs, h1, h2, h3.drop⟩⟩
def lstT (Ts : List Typ) : Typ := ⟨fun M B v H => ∃ a xs, v = .ref a ∧ ¬ M a ∧ H a = some (.lst xs) ∧ TysV M B Ts xs H, fun e ⟨a, xs, h1, h0, h2, h3⟩ => ⟨a, xs, h1, h0, e.keep h2 h0, h3.up e⟩,
  fun n ⟨a, xs, h1, h0, h2, h3⟩ => ⟨a, xs, h1, fun z => z.elim h0 (ne_of_none h2 n), h2, h3.weak n⟩, fun ⟨a, xs, h1, h0, h2, h3⟩ => ⟨a, xs, h1, fun z => h0 (.inl z), h2, h3.drop⟩⟩
section
variable {W : Wd} {Γ : Gam} {K : PySem.W.Frag} {ta tb te tc : TE} {tl tr : TA} {tt tu : TT} {T U A C P : Typ} {Ts Us : List Typ} {r : R2} {φ ψ : Bool → Prop} {i : Nat} {ds es : List PyData} {d e : PyData}
theorem tupT_data {M B : Addr → Prop} {v : V} {H : Hp} (h : (tupT K (ds.map (dt K))).p M B v H) : (dt K (.tuple ds)).p M B v H := by
  obtain ⟨a, xs, rfl, h2, h3⟩ := h
  exact .tup h2 h3.data
theorem data_tupT {M B : Addr → Prop} {v : V} {H : Hp} (h : (dt K (.tuple ds)).p M B v H) : (tupT K (ds.map (dt K))).p M B v H := by
  cases h with
  | tup h2 h3 => exact ⟨_, _, rfl, h2, TysV.ofData h3⟩
theorem lstT_data {M B : Addr → Prop} {v : V} {H : Hp} (h : (lstT (ds.map (dt K))).p M B v H) : (dt K (.list ds)).p M B v H := by
  obtain ⟨a, xs, rfl, h0, h2, h3⟩ := h
  exact .lst h2 h0 h3.data
theorem data_lstT {M B : Addr → Prop} {v : V} {H : Hp} (h : (dt K (.list ds)).p M B v H) : (lstT (ds.map (dt K))).p M B v H := by
  cases h with
  | lst h2 h0 h3 => exact ⟨_, _, rfl, h0, h2, TysV.ofData h3⟩
/-! ### values -/
theorem Ty.sub (h : Ty W Γ te T) (k : ∀ v H, Cxt W H → T.at W v H → U.at W v H) : Ty W Γ te U := fun σ H c g Q q => h σ H c g Q fun v H1 e z => q v H1 e (k v H1 (c.up e) z)
theorem ty_var (h : Γ[i]? = some (some T)) : Ty W Γ (tVar i) T := fun σ H c g Q q => by
  obtain ⟨v, h1, h2⟩ := g.get h
  exact ⟨v, h1, q v H (Ex.refl W.B H) h2⟩
theorem ty_int {n : Int} : Ty W Γ (tC (.int n)) (dt K (.int n)) := fun σ H c g Q q => q _ H (Ex.refl W.B H) (.int n)
theorem ty_bl {b : Bool} : Ty W Γ (tC (.bl b)) (dt K (.bool b)) := fun σ H c g Q q => q _ H (Ex.refl W.B H) (.bl b)
theorem ty_non : Ty W Γ (tC .non) (dt K .none) := fun σ H c g Q q => q _ H (Ex.refl W.B H) .non
theorem ty_str {x : Str} : Ty W Γ (tC (.str x)) (dt K (.str x)) := fun σ H c g Q q => q _ H (Ex.refl W.B H) (.str x)
/-- a constant value: a class, a built-in class -/
theorem ty_c {v : V} : Ty W Γ (tC v) (isV v) := fun σ H c g Q q => q _ H (Ex.refl W.B H) rfl
theorem ty_op (ha : Ty W Γ ta A) (hb : Ty W Γ tb C) (ho : OpT W r A C P) : Ty W Γ (tOp r ta tb) P := fun σ H c g Q q =>
  ha σ H c g _ fun u H1 e1 h1 => hb σ H1 (c.up e1) (g.up e1.toW) _ fun v H2 e2 h2 => ho u v H2 (c.up (e1.trans e2)) (A.up e2.toW h1) h2 Q fun w H3 e3 h3 => q w H3 (e1.trans (e2.trans e3)) h3
theorem ty_un {r : V → Hp → VK → Prop} (ha : Ty W Γ ta A) (ho : UnT W r A P) : Ty W Γ (tUn r ta) P := fun σ H c g Q q =>
  ha σ H c g _ fun u H1 e1 h1 => ho u H1 (c.up e1) h1 Q fun w H3 e3 h3 => q w H3 (e1.trans e3) h3
theorem ty_cb {r : List V → Hp → VK → Prop} (ha : TyA W Γ tl Ts) (ho : CbT W r Ts P) : Ty W Γ (tCB r tl) P := fun σ H c g Q q =>
  ha σ H c g _ fun us H1 e1 h1 => ho us H1 (c.up e1) h1 Q fun w H3 e3 h3 => q w H3 (e1.trans e3) h3
theorem tyl_cb {r : List V → Hp → VK → Prop} (ha : TyA W Γ tl Ts) (ho : CbL W r Ts Us) : TyL W Γ (tCB r tl) Us := fun σ H c g Q q =>
  ha σ H c g _ fun us H1 e1 h1 => ho us H1 (c.up e1) h1 Q fun p xs H3 e3 hp h3 h4 => q p xs H3 (e1.trans e3) (e1.free hp) h3 h4
theorem ty_if (hc : Tt W Γ tt φ) (h1 : φ true → Ty W Γ ta T) (h2 : φ false → Ty W Γ tb T) : Ty W Γ (tIf tt ta tb) T := fun σ H c g Q q =>
  hc σ H c g _ fun b H1 e1 hb => by
    cases b with
    | true => rw [if_pos rfl]; exact h1 hb σ H1 (c.up e1) (g.up e1.toW) Q fun v H2 e2 h => q v H2 (e1.trans e2) h
    | false => rw [if_neg Bool.false_ne_true]; exact h2 hb σ H1 (c.up e1) (g.up e1.toW) Q fun v H2 e2 h => q v H2 (e1.trans e2) h
theorem ty_andV {a b : Bool} (h1 : Ty W Γ ta (dt K (.bool a))) (h2 : a = true → Ty W Γ tb (dt K (.bool b))) : Ty W Γ (tAndV ta tb) (dt K (.bool (a && b))) := fun σ H c g Q q =>
  h1 σ H c g _ fun v H1 e1 hv => by
    cases hv
    refine ⟨a, rfl, ?_⟩
    cases a with
    | true => rw [if_pos rfl]; exact h2 rfl σ H1 (c.up e1) (g.up e1.toW) Q fun v H2 e2 h => q v H2 (e1.trans e2) (by rw [Bool.true_and]; exact h)
    | false => rw [if_neg Bool.false_ne_true]; exact q _ H1 e1 (.bl _)
theorem ty_orV {a b : Bool} (h1 : Ty W Γ ta (dt K (.bool a))) (h2 : a = false → Ty W Γ tb (dt K (.bool b))) : Ty W Γ (tOrV ta tb) (dt K (.bool (a || b))) := fun σ H c g Q q =>
  h1 σ H c g _ fun v H1 e1 hv => by
    cases hv
    refine ⟨a, rfl, ?_⟩
    cases a with
    | true => rw [if_pos rfl]; exact q _ H1 e1 (.bl _)
    | false => rw [if_neg Bool.false_ne_true]; exact h2 rfl σ H1 (c.up e1) (g.up e1.toW) Q fun v H2 e2 h => q v H2 (e1.trans e2) (by rw [Bool.false_or]; exact h)
theorem ty_notV {a : Bool} (h1 : Ty W Γ ta (dt K (.bool a))) : Ty W Γ (tNotV ta) (dt K (.bool (!a))) := fun σ H c g Q q =>
  h1 σ H c g _ fun v H1 e1 hv => by
    cases hv
    exact ⟨a, rfl, q _ H1 e1 (.bl _)⟩
theorem Ty.is (h : Ty W Γ te (dt K d)) (k : d = e) : Ty W Γ te (dt K e) := k ▸ h
/-! ### tests -/
theorem Tt.sub (h : Tt W Γ tt φ) (k : ∀ b, φ b → ψ b) : Tt W Γ tt ψ := fun σ H c g Q q => h σ H c g Q fun b H1 e z => q b H1 e (k b z)
theorem tt_B {b : Bool} (h : Ty W Γ te (dt K (.bool b))) : Tt W Γ (tB te) (· = b) := fun σ H c g Q q => h σ H c g _ fun v H1 e hv => by
  cases hv
  exact ⟨b, rfl, q b H1 e rfl⟩
theorem tt_test {b : Bool} (h : Ty W Γ te (dt K (.bool b))) : Tt W Γ (tTest te) (· = b) := fun σ H c g Q q => h σ H c g _ fun v H1 e hv => by
  cases hv
  exact ⟨b, rfl, q b H1 e rfl⟩
/-- a truth value of which something is known -/
def boT (K : PySem.W.Frag) (φ : Bool → Prop) : Typ := exT fun b : Bool => gd (φ b) (dt K (.bool b))
theorem tt_BE (h : Ty W Γ te (boT K φ)) : Tt W Γ (tB te) φ := fun σ H c g Q q => h σ H c g _ fun v H1 e ⟨b, h1, h2⟩ => by
  cases h2
  exact ⟨b, rfl, q b H1 e h1⟩
theorem tt_testE (h : Ty W Γ te (boT K φ)) : Tt W Γ (tTest te) φ := fun σ H c g Q q => h σ H c g _ fun v H1 e ⟨b, h1, h2⟩ => by
  cases h2
  exact ⟨b, rfl, q b H1 e h1⟩
theorem tt_and (h1 : Tt W Γ tt φ) (h2 : φ true → Tt W Γ tu ψ) : Tt W Γ (tAnd tt tu) (fun b => (b = false ∧ φ false) ∨ (φ true ∧ ψ b)) := fun σ H c g Q q =>
  h1 σ H c g _ fun b H1 e1 hb => by
    cases b with
    | true => rw [if_pos rfl]; exact h2 hb σ H1 (c.up e1) (g.up e1.toW) Q fun b H2 e2 h => q b H2 (e1.trans e2) (.inr ⟨hb, h⟩)
    | false => rw [if_neg Bool.false_ne_true]; exact q false H1 e1 (.inl ⟨rfl, hb⟩)
theorem tt_or (h1 : Tt W Γ tt φ) (h2 : φ false → Tt W Γ tu ψ) : Tt W Γ (tOr tt tu) (fun b => (b = true ∧ φ true) ∨ (φ false ∧ ψ b)) := fun σ H c g Q q =>
  h1 σ H c g _ fun b H1 e1 hb => by
    cases b with
    | true => rw [if_pos rfl]; exact q true H1 e1 (.inl ⟨rfl, hb⟩)
    | false => rw [if_neg Bool.false_ne_true]; exact h2 hb σ H1 (c.up e1) (g.up e1.toW) Q fun b H2 e2 h => q b H2 (e1.trans e2) (.inr ⟨hb, h⟩)
theorem tt_andB {a b : Bool} (h1 : Tt W Γ tt (· = a)) (h2 : a = true → Tt W Γ tu (· = b)) : Tt W Γ (tAnd tt tu) (· = (a && b)) :=
  (tt_and h1 fun z => h2 z.symm).sub fun c z => by
    rcases z with ⟨rfl, z⟩ | ⟨z, rfl⟩
    · rw [← z]; rfl
    · rw [← z]; rfl
theorem tt_orB {a b : Bool} (h1 : Tt W Γ tt (· = a)) (h2 : a = false → Tt W Γ tu (· = b)) : Tt W Γ (tOr tt tu) (· = (a || b)) :=
  (tt_or h1 fun z => h2 z.symm).sub fun c z => by
    rcases z with ⟨rfl, z⟩ | ⟨z, rfl⟩
    · rw [← z]; rfl
    · rw [← z]; rfl
theorem tt_not (h1 : Tt W Γ tt φ) : Tt W Γ (tNot tt) (fun b => φ (!b)) := fun σ H c g Q q => h1 σ H c g _ fun b H1 e1 hb => q (!b) H1 e1 (by show φ (!!b); rw [Bool.not_not]; exact hb)
theorem tt_notB {a : Bool} (h1 : Tt W Γ tt (· = a)) : Tt W Γ (tNot tt) (· = !a) := (tt_not h1).sub fun b z => by rw [← z, Bool.not_not]
theorem Tt.is {a b : Bool} (h : Tt W Γ tt (· = a)) (k : a = b) : Tt W Γ tt (· = b) := k ▸ h
/-! ### arguments, displays -/
theorem tya_nil : TyA W Γ tNil [] := fun σ H c g Q q => q [] H (Ex.refl W.B H) True.intro
theorem tya_cons (h : Ty W Γ te T) (hr : TyA W Γ tr Ts) : TyA W Γ (tCons te tr) (T :: Ts) := fun σ H c g Q q =>
  h σ H c g _ fun v H1 e1 hv => hr σ H1 (c.up e1) (g.up e1.toW) _ fun vs H2 e2 hvs => q (v :: vs) H2 (e1.trans e2) ⟨T.up e2.toW hv, hvs⟩
theorem TyA.data (h : TyA W Γ tl Ts) (k : Ts = ds.map (dt K)) : TyA W Γ tl (ds.map (dt K)) := k ▸ h
theorem sz_le {n : Nat} (h : n ≤ 1000000) : n ≤ sizeLine := Nat.le_trans h (by decide)
theorem sz_lt {n : Nat} (h : n < 1000000) : n < sizeLine := Nat.lt_of_lt_of_le h (by decide)
theorem ty_tup (h : TyA W Γ tl Ts) (hz : Ts.length ≤ 1000000) : Ty W Γ (tTup tl) (tupT K Ts) := fun σ H c g Q q =>
  h σ H c g _ fun vs H1 e1 hv => ⟨by rw [hv.length]; exact sz_le hz, fun p hp => q _ _ (e1.trans (Ex.new hp)) ⟨p, vs, rfl, SqT.of upd_same, hv.up (Ex.new hp).toW⟩⟩
theorem tyl_lst (h : TyA W Γ tl Ts) (hz : Ts.length ≤ 1000000) : TyL W Γ (tLst tl) Ts := fun σ H c g Q q =>
  h σ H c g _ fun vs H1 e1 hv => ⟨by rw [hv.length]; exact sz_le hz, fun p hp => q p vs _ (e1.trans (Ex.new hp)) (e1.free hp) upd_same (hv.up (Ex.new hp).toW)⟩
theorem TyL.ty (h : TyL W Γ te Ts) : Ty W Γ te (lstT Ts) := fun σ H c g Q q => h σ H c g Q fun p xs H1 e hp h1 h2 => q _ H1 e ⟨p, xs, rfl, c.nm hp, h1, h2⟩
theorem TyL.data (h : TyL W Γ te (ds.map (dt K))) : Ty W Γ te (dt K (.list ds)) := h.ty.sub fun _ _ _ => lstT_data
theorem Ty.tup (h : Ty W Γ te (tupT K (ds.map (dt K)))) : Ty W Γ te (dt K (.tuple ds)) := h.sub fun _ _ _ => tupT_data
theorem ty_tupD (h : TyA W Γ tl (ds.map (dt K))) (hz : ds.length ≤ 1000000) : Ty W Γ (tTup tl) (dt K (.tuple ds)) := (ty_tup h (by rw [List.length_map]; exact hz)).tup
theorem ty_lstD (h : TyA W Γ tl (ds.map (dt K))) (hz : ds.length ≤ 1000000) : Ty W Γ (tLst tl) (dt K (.list ds)) := (tyl_lst h (by rw [List.length_map]; exact hz)).data
/-! ### statements -/
variable {ts tu' : TS} {N N' : Sx → Hp → Prop} {R : V → Hp → Prop} {Bk Ct : Sx → Hp → Prop} {W' : Wd}
theorem tys_seq {tw : TS} (h1 : TyS W Γ ts N R Bk Ct) (h2 : ∀ σ H, N σ H → ∃ (W' : Wd) (Γ' : Gam), W.Like W' ∧ nE W' Γ' σ H ∧ TyS W' Γ' tw N' R Bk Ct) : TyS W Γ (tSeq ts tw) N' R Bk Ct := fun σ H c g D dn dr db dc =>
  h1 σ H c g { D with nx := tw D } (fun σ' H' e n => by
    obtain ⟨W', Γ', l, g', k⟩ := h2 σ' H' n
    exact k σ' H' g'.1 g'.2 D (fun σ2 H2 e2 => dn σ2 H2 (e.trans (l.exm e2))) dr (fun σ2 H2 e2 => db σ2 H2 (e.trans (l.exm e2))) (fun σ2 H2 e2 => dc σ2 H2 (e.trans (l.exm e2)))) dr db dc
theorem tys_seqE {Γ' : Gam} {tw : TS} (h1 : TyS W Γ ts (nE W' Γ') R Bk Ct) (h2 : TyS W' Γ' tw N' R Bk Ct) (l : W.Like W' := by exact ⟨rfl, rfl⟩) : TyS W Γ (tSeq ts tw) N' R Bk Ct := tys_seq h1 fun σ H n => ⟨W', Γ', l, n, h2⟩
theorem tys_seqX {α : Type} {W' : α → Wd} {Γ' : α → Gam} {tw : TS} (h1 : TyS W Γ ts (fun σ H => ∃ x, nE (W' x) (Γ' x) σ H) R Bk Ct) (h2 : ∀ x, TyS (W' x) (Γ' x) tw N' R Bk Ct) (l : ∀ x, W.Like (W' x) := by exact fun _ => ⟨rfl, rfl⟩) : TyS W Γ (tSeq ts tw) N' R Bk Ct :=
  tys_seq h1 fun σ H ⟨x, n⟩ => ⟨W' x, Γ' x, l x, n, h2 x⟩
theorem TyS.imp (h : TyS W Γ ts N R Bk Ct) (k : ∀ σ H, N σ H → N' σ H) : TyS W Γ ts N' R Bk Ct := fun σ H c g D dn dr db dc => h σ H c g D (fun σ' H' e n => dn σ' H' e (k σ' H' n)) dr db dc
theorem TyS.never (h : TyS W Γ ts noN R Bk Ct) : TyS W Γ ts N R Bk Ct := h.imp fun _ _ z => z.elim
theorem TyS.less {Δ : Gam} (h : TyS W Γ ts N R Bk Ct) (l : Less Γ Δ) : TyS W Δ ts N R Bk Ct := fun σ H c g => h σ H c (EnvL.less l g)
theorem tys_next : TyS W Γ tNext (nE W Γ) R Bk Ct := fun σ H c g D dn _ _ _ => dn σ H (Exm.refl _ _ _) ⟨c, g⟩
theorem tys_cont : TyS W Γ tCont noN R Bk (nE W Γ) := fun σ H c g D _ _ _ dc => dc σ H (Exm.refl _ _ _) ⟨c, g⟩
theorem tys_break : TyS W Γ tBreak noN R (nE W Γ) Ct := fun σ H c g D _ _ db _ => db σ H (Exm.refl _ _ _) ⟨c, g⟩
theorem tys_set (h : Ty W Γ te T) : TyS W Γ (tAsg te (gName i)) (nE W (Γ.set i (some T))) R Bk Ct := fun σ H c g D dn _ _ _ =>
  h σ H c g _ fun v H1 e hv => dn _ H1 e.toW ⟨c.up e, EnvL.set hv (g.up e.toW)⟩
theorem tys_setX {α : Type} {A : α → Typ} (h : Ty W Γ te (exT A)) : TyS W Γ (tAsg te (gName i)) (fun σ H => ∃ x, nE W (Γ.set i (some (A x))) σ H) R Bk Ct := fun σ H c g D dn _ _ _ =>
  h σ H c g _ fun v H1 e ⟨x, hv⟩ => dn _ H1 e.toW ⟨x, c.up e, EnvL.set hv (g.up e.toW)⟩
theorem tys_ret (h : Ty W Γ te T) (k : ∀ v H, Cxt W H → T.at W v H → R v H) : TyS W Γ (tRet te) noN R Bk Ct := fun σ H c g D _ dr _ _ => h σ H c g _ fun v H1 e hv => dr v H1 (k v H1 (c.up e) hv)
theorem tys_drop (h : Ty W Γ te T) : TyS W Γ (tDrop te) (nE W Γ) R Bk Ct := fun σ H c g D dn _ _ _ => h σ H c g _ fun v H1 e _ => dn σ H1 e.toW ⟨c.up e, g.up e.toW⟩
theorem tys_if (hc : Tt W Γ tt φ) (h1 : φ true → TyS W Γ ts N R Bk Ct) (h2 : φ false → TyS W Γ tu' N R Bk Ct) : TyS W Γ (tIfS tt ts tu') N R Bk Ct := fun σ H c g D dn dr db dc =>
  hc σ H c g _ fun b H1 e hb => by
    have f := e.toW
    cases b with
    | true => rw [if_pos rfl]; exact h1 hb σ H1 (c.up e) (g.up f) D (fun σ2 H2 e2 => dn σ2 H2 (f.trans e2)) dr (fun σ2 H2 e2 => db σ2 H2 (f.trans e2)) (fun σ2 H2 e2 => dc σ2 H2 (f.trans e2))
    | false => rw [if_neg Bool.false_ne_true]; exact h2 hb σ H1 (c.up e) (g.up f) D (fun σ2 H2 e2 => dn σ2 H2 (f.trans e2)) dr (fun σ2 H2 e2 => db σ2 H2 (f.trans e2)) (fun σ2 H2 e2 => dc σ2 H2 (f.trans e2))
/-- an if that returns, then the rest -/
theorem tys_guard {tw : TS} (hc : Tt W Γ tt φ) (h1 : φ true → TyS W Γ ts noN R Bk Ct) (h2 : φ false → TyS W Γ tw N R Bk Ct) : TyS W Γ (tSeq (tIfS tt ts tNext) tw) N R Bk Ct := fun σ H c g D dn dr db dc =>
  hc σ H c g _ fun b H1 e hb => by
    have f := e.toW
    cases b with
    | true => rw [if_pos rfl]; exact h1 hb σ H1 (c.up e) (g.up f) _ (fun σ2 H2 _ z => z.elim) dr (fun σ2 H2 e2 => db σ2 H2 (f.trans e2)) (fun σ2 H2 e2 => dc σ2 H2 (f.trans e2))
    | false => rw [if_neg Bool.false_ne_true]; exact h2 hb σ H1 (c.up e) (g.up f) D (fun σ2 H2 e2 => dn σ2 H2 (f.trans e2)) dr (fun σ2 H2 e2 => db σ2 H2 (f.trans e2)) (fun σ2 H2 e2 => dc σ2 H2 (f.trans e2))
end
/-! ### promises -/
/-- for every x with C: arguments of the types A, a value of the type R; the boxes of B may turn -/
def spT {α : Type} (C : α → Prop) (A : α → List Typ) (R : α → Typ) : Sp := fun vs H Q _ => ∃ (M B : Addr → Prop) (x : α), (∀ a, B a → M a) ∧ (∀ a, B a → BoxAt H a) ∧ (∀ a, M a → H a ≠ none) ∧ C x ∧ TysV M B (A x) vs H ∧ ∀ v H', Ex B H H' → (R x).p M B v H' → Q v H'
section
variable {W : Wd} {Γ : Gam} {tl : TA} {α : Type} {C : α → Prop} {A : α → List Typ} {R : α → Typ} {E : XK}
theorem ty_call (x : α) (hC : C x) (h : TyA W Γ tl (A x)) : Ty W Γ (tCall (spT C A R) [] E tl) (R x) := fun σ H c g Q q =>
  h σ H c g _ fun vs H1 e1 hv => ⟨W.M, W.B, x, W.sub, (c.up e1).box, (c.up e1).al, hC, by rw [List.append_nil]; exact hv, fun v H2 e2 h2 => q v H2 (e1.trans e2) h2⟩
end
/-- a def's first world -/
def Wd.base (M B : Addr → Prop) (H : Hp) (s : ∀ a, B a → M a) : Wd := ⟨M, B, H, fun _ => True, s, fun _ _ => True.intro⟩
section
variable {P : Program} {w : World} {K : PySem.W.Frag} {mg : Str → Option Value} {base : Heap}
theorem okN {x qual : Str} {st : Stmt} {f : Addr} {fd : FuncData} {N ps : List Str} {k : Nat} {sp : Sp} (F : Fun K x qual st f fd) (S : FnScope N ps (defScope st)) (len : ∀ vs H Q E, sp vs H Q E → vs.length = ps.length)
    (hbody : ∀ (cdv : Value) (A : Around) (outer : List Env) (s : Shared) (H : Hp) (vs : List V) (Q : VK) (E : XK), Room k (A.deeper (envOfC qual (defScope st) s.heap.objs.size f cdv)) → sp vs H Q E →
      ∃ t, PSs (cxOf (L2.CX P w) P w K mg base N qual (defScope st) f cdv A outer s H E).nox (defBody st) t ∧ t { nx := fun _ H' => Q .non H', rt := Q } (L2.start N vs) H) : FnOk P w K mg base (L2.CX P w) (k + 1) f fd ps sp :=
  F.okX S len fun cdv A outer s H vs Q E hr hs => by
    obtain ⟨t, h, q⟩ := hbody cdv A outer s H vs Q E hr hs
    exact ⟨t, h.nox, q⟩
theorem env_start {M B : Addr → Prop} {H : Hp} : ∀ {Ts : List Typ} {vs : List V}, TysV M B Ts vs H → ∀ n, EnvL M B (Ts.map some ++ List.replicate n none) (vs.map some ++ List.replicate n none) H
  | [], [], _, n => by
    induction n with
    | zero => exact True.intro
    | succ n ih => exact ih
  | _ :: _, _ :: _, h, n => ⟨h.1, env_start h.2 n⟩
  | [], _ :: _, h, _ => h.elim
  | _ :: _, [], h, _ => h.elim
/-- what a def hands back -/
def rW (W : Wd) (T : Typ) : V → Hp → Prop := fun v H => Ex W.B W.H0 H ∧ T.at W v H
/-- a def by its typed body -/
theorem fn_ty {x qual : Str} {st : Stmt} {f : Addr} {fd : FuncData} {N ps : List Str} {k : Nat} {α : Type} {C : α → Prop} {A : α → List Typ} {R : α → Typ} (F : Fun K x qual st f fd) (S : FnScope N ps (defScope st))
    (len : ∀ x, C x → (A x).length = ps.length)
    (hbody : ∀ (cdv : Value) (Ar : Around) (outer : List Env) (s : Shared) (H : Hp) (E : XK), Room k (Ar.deeper (envOfC qual (defScope st) s.heap.objs.size f cdv)) →
      ∃ t, PSs (cxOf (L2.CX P w) P w K mg base N qual (defScope st) f cdv Ar outer s H E).nox (defBody st) t ∧ ∀ (W : Wd) (x : α), C x → TyS W ((A x).map some ++ List.replicate (N.length - ps.length) none) t (fun _ H' => rW W (R x) .non H') (rW W (R x)) noN noN) :
    FnOk P w K mg base (L2.CX P w) (k + 1) f fd ps (spT C A R) := by
  refine okN F S (fun vs H Q E h => ?_) fun cdv Ar outer s H vs Q E hr h => ?_
  · obtain ⟨M, B, x, _, _, _, hC, h, _⟩ := h
    rw [h.length, len x hC]
  · obtain ⟨M, B, x, hs, hb, ha, hC, h, q⟩ := h
    obtain ⟨t, ht, k⟩ := hbody cdv Ar outer s H E hr
    refine ⟨t, ht, k (Wd.base M B H hs) x hC (L2.start N vs) H ⟨hb, ha, Ex.refl B H, True.intro⟩ ?_ _ (fun σ' H' _ n => q _ _ n.1 n.2) (fun v H' n => q _ _ n.1 n.2) (fun _ _ _ z => z.elim) (fun _ _ _ z => z.elim)⟩
    unfold L2.start
    have e : vs.length = ps.length := by rw [h.length, len x hC]
    rw [e]
    exact env_start h _
theorem tys_retW {W : Wd} {Γ : Gam} {te : TE} {T : Typ} {Bk Ct : Sx → Hp → Prop} (h : Ty W Γ te T) : TyS W Γ (tRet te) noN (rW W T) Bk Ct := tys_ret h fun v H c k => ⟨c.ex, k⟩
end
end Ew

end
section
set_option Elab.async false
set_option linter.all false
set_option maxRecDepth 100000
set_option maxHeartbeats 1000000
/-! EwC: operators, built-in calls, walks, comprehensions, loops, by types. -/
namespace Ew
open PySem PySem.Spec PyProof.Rows L2
/-! ### what may be one of several -/
theorem CallR.or {X : Cx} {f : Value} {r r' : List V → Hp → VK → Prop} (h : CallR X f r) (h' : CallR X f r') : CallR X f (fun xs H Q => r xs H Q ∨ r' xs H Q) := by
  intro pins s σ H xs us Q I rx q
  rcases q with q | q
  · exact h pins s σ H xs us Q I rx q
  · exact h' pins s σ H xs us Q I rx q
abbrev rAddI : R2 := rI0 fun i j => .int (i + j)
abbrev rAddStr : R2 := fun x y H Q => ∃ i j, x = .str i ∧ y = .str j ∧ i.length + j.length ≤ sizeLine ∧ Q (.str (i ++ j)) H
/-- a + b: ints, tuples, lists, texts -/
def rAddA (K : PySem.W.Frag) : R2 := fun x y H Q => rAddI x y H Q ∨ rCatA K x y H Q ∨ rCat x y H Q ∨ rAddStr x y H Q
theorem op_addA {X : Cx} : OpR X (binaryOp .Add) (rAddA X.K) := op_add.or (op_catA.or (op_cat.or op_add_str))
/-- a * b: ints (below 2 ^ 64 one of them; together below a million bits) -/
def rMulA : R2 := fun x y H Q => rI CMul (fun i j => .int (i * j)) x y H Q ∨ rI CMulW (fun i j => .int (i * j)) x y H Q
theorem op_mulA {X : Cx} : OpR X (binaryOp .Mult) rMulA := op_mul.or op_mulW
/-- a // b -/
def rDivA : R2 := fun x y H Q => rI CDivW (fun i j => .int (i / j)) x y H Q ∨ rI CDivN (fun i j => .int (i.fdiv j)) x y H Q
theorem op_divA {X : Cx} : OpR X (binaryOp .FloorDiv) rDivA := op_fdivW.or op_fdivN
/-- == at any depth -/
def rEqA (K : PySem.W.Frag) : R2 := fun x y H Q => rEq x y H Q ∨ rEqD K x y H Q
theorem op_eqA {X : Cx} (hu : X.A.units + 64 < cLine) : OpR X (compareOp .Eq) (rEqA X.K) := op_eq.or (op_eqD hu)
def rNeA (K : PySem.W.Frag) : R2 := fun x y H Q => rNe x y H Q ∨ rNeD K x y H Q
theorem op_neA {X : Cx} (hu : X.A.units + 64 < cLine) : OpR X (compareOp .NotEq) (rNeA X.K) := op_ne.or (op_neD hu)
/-- len -/
def rLen (K : PySem.W.Frag) : List V → Hp → VK → Prop := fun xs H Q => ∃ x n, xs = [x] ∧ LenV K x H n ∧ Q (.int n) H
def rLenD : List V → Hp → VK → Prop := fun xs H Q => ∃ d kvs, xs = [.ref d] ∧ H d = some (.dK kvs) ∧ Q (.int (kvs.length : Nat)) H

section
variable {W : Wd} {Γ : Gam} {K : PySem.W.Frag} {T U A C P : Typ} {Ts Us : List Typ} {i j : Int} {ds es : List PyData} {d e : PyData} {B : Addr → Prop}
theorem opt_I0 {g : Int → Int → V} {r : PyData} (h : ∀ M H, Rp M K H (g i j) r) : OpT W (rI0 g) (dt K (.int i)) (dt K (.int j)) (dt K r) := fun u v H c hu hv Q q => by
  cases hu
  cases hv
  exact ⟨i, j, rfl, rfl, q _ H (Ex.refl W.B H) (h _ _)⟩
theorem opt_I {D : Int → Int → Prop} {g : Int → Int → V} {r : PyData} (hd : D i j) (h : ∀ M H, Rp M K H (g i j) r) : OpT W (rI D g) (dt K (.int i)) (dt K (.int j)) (dt K r) := fun u v H c hu hv Q q => by
  cases hu
  cases hv
  exact ⟨i, j, rfl, rfl, hd, q _ H (Ex.refl W.B H) (h _ _)⟩
theorem opt_add : OpT W (rAddA K) (dt K (.int i)) (dt K (.int j)) (dt K (.int (i + j))) := fun u v H c hu hv Q q => .inl (opt_I0 (fun _ _ => .int _) u v H c hu hv Q q)
theorem opt_sub : OpT W (rI0 fun i j => .int (i - j)) (dt K (.int i)) (dt K (.int j)) (dt K (.int (i - j))) := opt_I0 fun _ _ => .int _
theorem opt_mul (h : CMul i j) : OpT W rMulA (dt K (.int i)) (dt K (.int j)) (dt K (.int (i * j))) := fun u v H c hu hv Q q => .inl (opt_I h (fun _ _ => .int _) u v H c hu hv Q q)
theorem opt_mulW (h : CMulW i j) : OpT W rMulA (dt K (.int i)) (dt K (.int j)) (dt K (.int (i * j))) := fun u v H c hu hv Q q => .inr (opt_I h (fun _ _ => .int _) u v H c hu hv Q q)
theorem opt_div (h : CDivW i j) : OpT W rDivA (dt K (.int i)) (dt K (.int j)) (dt K (.int (i / j))) := fun u v H c hu hv Q q => .inl (opt_I h (fun _ _ => .int _) u v H c hu hv Q q)
theorem opt_mod (h : 0 < j) : OpT W (rI (fun _ j => 0 < j) fun i j => .int (i % j)) (dt K (.int i)) (dt K (.int j)) (dt K (.int (i % j))) := opt_I h fun _ _ => .int _
theorem opt_pow (h : CPow i j) : OpT W (rI CPow fun i j => .int (i ^ j.toNat)) (dt K (.int i)) (dt K (.int j)) (dt K (.int (i ^ j.toNat))) := opt_I h fun _ _ => .int _
theorem opt_lt : OpT W (rI0 fun i j => .bl (decide (i < j))) (dt K (.int i)) (dt K (.int j)) (dt K (.bool (decide (i < j)))) := opt_I0 fun _ _ => .bl _
theorem opt_le : OpT W (rI0 fun i j => .bl (decide (i ≤ j))) (dt K (.int i)) (dt K (.int j)) (dt K (.bool (decide (i ≤ j)))) := opt_I0 fun _ _ => .bl _
theorem opt_gt : OpT W (rI0 fun i j => .bl (decide (j < i))) (dt K (.int i)) (dt K (.int j)) (dt K (.bool (decide (j < i)))) := opt_I0 fun _ _ => .bl _
theorem opt_ge : OpT W (rI0 fun i j => .bl (decide (j ≤ i))) (dt K (.int i)) (dt K (.int j)) (dt K (.bool (decide (j ≤ i)))) := opt_I0 fun _ _ => .bl _
theorem unt_neg : UnT W (rU fun i => .int (-i)) (dt K (.int i)) (dt K (.int (-i))) := fun u H c hu Q q => by
  cases hu
  exact ⟨i, rfl, q _ H (Ex.refl W.B H) (.int _)⟩
theorem opt_catT (hz : ds.length + es.length ≤ 1000000) : OpT W (rAddA K) (dt K (.tuple ds)) (dt K (.tuple es)) (dt K (.tuple (ds ++ es))) := fun u v H c hu hv Q q => by
  cases hu with
  | @tup a xs _ h1 h2 =>
    cases hv with
    | @tup b ys _ h3 h4 =>
      refine .inr (.inl ⟨a, b, xs, ys, rfl, rfl, h1, h3, by rw [h2.length, h4.length]; exact sz_le hz, fun e => ?_, fun _ e => ?_, fun _ _ p hp => ?_⟩)
      · subst e
        cases h2
        exact q _ H (Ex.refl W.B H) (.tup h3 h4)
      · subst e
        cases h4
        rw [List.append_nil] at q
        exact q _ H (Ex.refl W.B H) (.tup h1 h2)
      · exact q _ _ (Ex.new hp) (.tup (SqT.of upd_same) (RpA.up (Ex.new (B := W.B) hp).toW (h2.append h4)))
theorem opt_catL (hz : Ts.length + Us.length ≤ 1000000) : OpT W (rAddA K) (lstT Ts) (lstT Us) (lstT (Ts ++ Us)) := fun u v H c hu hv Q q => by
  obtain ⟨a, xs, rfl, ha, h1, h2⟩ := hu
  obtain ⟨b, ys, rfl, hb, h3, h4⟩ := hv
  exact .inr (.inr (.inl ⟨a, b, xs, ys, rfl, rfl, h1, h3, by rw [h2.length, h4.length]; exact sz_le hz, fun p hp => q _ _ (Ex.new hp) ⟨p, xs ++ ys, rfl, c.nm hp, upd_same, (h2.append h4).up (Ex.new (B := W.B) hp).toW⟩⟩))
theorem opt_catS {x y : Str} (hz : x.length + y.length ≤ 1000000) : OpT W (rAddA K) (dt K (.str x)) (dt K (.str y)) (dt K (.str (x ++ y))) := fun u v H c hu hv Q q => by
  cases hu
  cases hv
  exact .inr (.inr (.inr ⟨x, y, rfl, rfl, sz_le hz, q _ H (Ex.refl W.B H) (.str _)⟩))
/-! ### == -/
mutual
theorem Rp.dp {M : Addr → Prop} {H : Hp} : ∀ {v : V} {d : PyData}, Rp M K H v d → d.canLay0 = true → Dp K H v d
  | _, _, .non, _ => .non
  | _, _, .bl b, _ => .bl b
  | _, _, .int i, _ => .int i
  | _, _, .str x, _ => .str x
  | _, _, .lst h _ r, z => .lst (SqL.of h) (RpA.dp r (by simpa [PyData.canLay0] using z))
  | _, _, .tup h r, z => .tup h (RpA.dp r (by simpa [PyData.canLay0] using z))
  | _, _, .dic _ _, z => by simp [PyData.canLay0] at z
theorem RpA.dp {M : Addr → Prop} {H : Hp} : ∀ {v : List V} {d : List PyData}, RpA M K H v d → PyData.canLayAll0 d = true → DpAll K H v d
  | _, _, .nil, _ => .nil
  | _, _, .cons h r, z => by
    have z' := Bool.and_eq_true_iff.mp (show (PyData.canLay0 _ && PyData.canLayAll0 _) = true by simpa [PyData.canLayAll0] using z)
    exact .cons (Rp.dp h z'.1) (RpA.dp r z'.2)
end
theorem opt_eqD (hd : SeqAt.shaped d = true) (he : SeqAt.shaped e = true) : OpT W (rEqA K) (dt K d) (dt K e) (dt K (.bool (PyData.eqv d e))) := fun u v H c hu hv Q q =>
  .inr ⟨d, e, Rp.dp hu (SeqAt.canLay_of_shaped hd), Rp.dp hv (SeqAt.canLay_of_shaped he), hd, he, q _ H (Ex.refl W.B H) (.bl _)⟩
theorem opt_neD (hd : SeqAt.shaped d = true) (he : SeqAt.shaped e = true) : OpT W (rNeA K) (dt K d) (dt K e) (dt K (.bool (!PyData.eqv d e))) := fun u v H c hu hv Q q =>
  .inr ⟨d, e, Rp.dp hu (SeqAt.canLay_of_shaped hd), Rp.dp hv (SeqAt.canLay_of_shaped he), hd, he, q _ H (Ex.refl W.B H) (.bl _)⟩
theorem opt_eqI : OpT W (rEqA K) (dt K (.int i)) (dt K (.int j)) (dt K (.bool (decide (i = j)))) := fun u v H c hu hv Q q => by
  cases hu
  cases hv
  refine .inl ⟨rfl, q _ H (Ex.refl W.B H) ?_⟩
  have e : decide (V.int i = V.int j) = decide (i = j) := by rw [dec_int, Bool.beq_eq_decide_eq]
  rw [e]; exact .bl _
theorem opt_neI : OpT W (rNeA K) (dt K (.int i)) (dt K (.int j)) (dt K (.bool (!decide (i = j)))) := fun u v H c hu hv Q q => by
  cases hu
  cases hv
  refine .inl ⟨rfl, q _ H (Ex.refl W.B H) ?_⟩
  have e : decide (V.int i = V.int j) = decide (i = j) := by rw [dec_int, Bool.beq_eq_decide_eq]
  rw [e]; exact .bl _
theorem opt_eqB {a b : Bool} : OpT W (rEqA K) (dt K (.bool a)) (dt K (.bool b)) (dt K (.bool (decide (a = b)))) := fun u v H c hu hv Q q => by
  cases hu
  cases hv
  refine .inl ⟨rfl, q _ H (Ex.refl W.B H) ?_⟩
  have e : decide (V.bl a = V.bl b) = decide (a = b) := by rw [dec_bl, Bool.beq_eq_decide_eq]
  rw [e]; exact .bl _
theorem opt_neB {a b : Bool} : OpT W (rNeA K) (dt K (.bool a)) (dt K (.bool b)) (dt K (.bool (!decide (a = b)))) := fun u v H c hu hv Q q => by
  cases hu
  cases hv
  refine .inl ⟨rfl, q _ H (Ex.refl W.B H) ?_⟩
  have e : decide (V.bl a = V.bl b) = decide (a = b) := by rw [dec_bl, Bool.beq_eq_decide_eq]
  rw [e]; exact .bl _
theorem opt_eqS {a b : Str} : OpT W (rEqA K) (dt K (.str a)) (dt K (.str b)) (dt K (.bool (decide (a = b)))) := fun u v H c hu hv Q q => by
  cases hu
  cases hv
  refine .inl ⟨rfl, q _ H (Ex.refl W.B H) ?_⟩
  have e : decide (V.str a = V.str b) = decide (a = b) := by rw [dec_str, Bool.beq_eq_decide_eq]
  rw [e]; exact .bl _
theorem opt_neS {a b : Str} : OpT W (rNeA K) (dt K (.str a)) (dt K (.str b)) (dt K (.bool (!decide (a = b)))) := fun u v H c hu hv Q q => by
  cases hu
  cases hv
  refine .inl ⟨rfl, q _ H (Ex.refl W.B H) ?_⟩
  have e : decide (V.str a = V.str b) = decide (a = b) := by rw [dec_str, Bool.beq_eq_decide_eq]
  rw [e]; exact .bl _
/-! ### is -/
def isNoneD : PyData → Bool
  | .none => true
  | _ => false
theorem Rp.isN {M : Addr → Prop} {H : Hp} {v : V} (h : Rp M K H v d) : decide (v = .non) = isNoneD d := by
  cases h <;> rfl
theorem opt_isN : OpT W (fun x y H Q => y = .non ∧ Q (.bl (decide (x = .non))) H) (dt K d) (dt K .none) (dt K (.bool (isNoneD d))) := fun u v H c hu hv Q q => by
  cases hv
  exact ⟨rfl, q _ H (Ex.refl W.B H) (by rw [Rp.isN hu]; exact .bl _)⟩
theorem opt_notN : OpT W (fun x y H Q => y = .non ∧ Q (.bl (!decide (x = .non))) H) (dt K d) (dt K .none) (dt K (.bool (!isNoneD d))) := fun u v H c hu hv Q q => by
  cases hv
  exact ⟨rfl, q _ H (Ex.refl W.B H) (by rw [Rp.isN hu]; exact .bl _)⟩
theorem opt_isB {a b : Bool} : OpT W rIsB (dt K (.bool a)) (dt K (.bool b)) (dt K (.bool (decide (a = b)))) := fun u v H c hu hv Q q => by
  cases hu
  cases hv
  exact ⟨a, b, rfl, rfl, q _ H (Ex.refl W.B H) (.bl _)⟩
/-! ### items -/
theorem atI_RpA {M : Addr → Prop} {H : Hp} {xs : List V} (h : RpA M K H xs ds) (e : atI ds i = some d) : ∃ v, atI xs i = some v ∧ Rp M K H v d := by
  unfold atI at e ⊢
  rw [h.length]
  cases q : ixN ds.length i with
  | none => rw [q] at e; cases e
  | some n =>
    rw [q] at e
    exact h.getD e
theorem opt_ixT (e : atI ds i = some d) : OpT W (rIx K) (dt K (.tuple ds)) (dt K (.int i)) (dt K d) := fun u v H c hu hv Q q => by
  cases hv
  cases hu with
  | tup h r =>
    obtain ⟨w, h1, h2⟩ := atI_RpA r e
    exact .inr (.inl ⟨_, _, i, w, rfl, rfl, h, h1, q w H (Ex.refl W.B H) h2⟩)
theorem opt_ixL (e : atI ds i = some d) : OpT W (rIx K) (dt K (.list ds)) (dt K (.int i)) (dt K d) := fun u v H c hu hv Q q => by
  cases hv
  cases hu with
  | lst h _ r =>
    obtain ⟨w, h1, h2⟩ := atI_RpA r e
    exact .inl ⟨_, _, i, w, rfl, rfl, SqL.of h, h1, q w H (Ex.refl W.B H) h2⟩
theorem opt_ixLT {n : Nat} (e : Ts[n]? = some T) : OpT W (rIx K) (lstT Ts) (dt K (.int (n : Int))) T := fun u v H c hu hv Q q => by
  cases hv
  obtain ⟨a, xs, rfl, _, h1, h2⟩ := hu
  obtain ⟨w, h3, h4⟩ := h2.get e
  exact .inl ⟨_, _, (n : Int), w, rfl, rfl, SqL.of h1, atI_nat h3, q w H (Ex.refl W.B H) h4⟩
theorem opt_ixTT {n : Nat} (e : Ts[n]? = some T) : OpT W (rIx K) (tupT K Ts) (dt K (.int (n : Int))) T := fun u v H c hu hv Q q => by
  cases hv
  obtain ⟨a, xs, rfl, h1, h2⟩ := hu
  obtain ⟨w, h3, h4⟩ := h2.get e
  exact .inr (.inl ⟨_, _, (n : Int), w, rfl, rfl, h1, atI_nat h3, q w H (Ex.refl W.B H) h4⟩)
/-! ### calls -/
theorem cbt_len1 {n : Nat} (h : ∀ M H v, Rp M K H v d → LenV K v H n) : CbT W (rLen K) [dt K d] (dt K (.int n)) := fun us H c hu Q q => by
  obtain ⟨v, rfl⟩ : ∃ v, us = [v] := by
    match us, hu with
    | [v], _ => exact ⟨v, rfl⟩
  exact ⟨v, n, rfl, h _ _ _ hu.1, q _ H (Ex.refl W.B H) (.int _)⟩
theorem cbt_lenT : CbT W (rLen K) [dt K (.tuple ds)] (dt K (.int (ds.length : Nat))) := cbt_len1 fun M H v h => by
  cases h with
  | tup h r => exact .inr ⟨_, h, r.length.symm⟩
theorem cbt_lenL : CbT W (rLen K) [dt K (.list ds)] (dt K (.int (ds.length : Nat))) := cbt_len1 fun M H v h => by
  cases h with
  | lst h _ r => exact .inl ⟨_, SqL.of h, r.length.symm⟩
theorem cbt_lenS {x : Str} (hz : x.length ≤ 1000000) : CbT W (rLen K) [dt K (.str x)] (dt K (.int (x.length : Nat))) := cbt_len1 fun M H v h => by
  cases h
  exact ⟨sz_le hz, rfl⟩
theorem cbt_lenLT : CbT W (rLen K) [lstT Ts] (dt K (.int (Ts.length : Nat))) := fun us H c hu Q q => by
  match us, hu with
  | [v], hu =>
    obtain ⟨⟨a, xs, rfl, _, h1, h2⟩, _⟩ := hu
    exact ⟨_, Ts.length, rfl, .inl ⟨xs, SqL.of h1, h2.length.symm⟩, q _ H (Ex.refl W.B H) (.int _)⟩
def tyD : PyData → String
  | .none => "NoneType"
  | .bool _ => "bool"
  | .int _ => "int"
  | .str _ => "str"
  | .list _ => "list"
  | .tuple _ => "tuple"
  | .dict _ => "dict"
theorem Rp.ty {M : Addr → Prop} {H : Hp} {v : V} (h : Rp M K H v d) : TyX K H v (.type (tyD d)) := by
  cases h with
  | non => exact .base .non
  | bl b => exact .base (.bl b)
  | int i => exact .base (.int i)
  | str x => exact .base (.str x)
  | lst h _ _ => exact .base (.lst h)
  | tup h _ =>
    rcases h with (h | ⟨o, h⟩) | ⟨o, its, n, h1, h2, _⟩
    · exact .base (.tup h)
    · exact .fTuple h
    · exact .kTuple h1 h2
  | dic h _ => exact .base (.dK h)
/-- isinstance of data -/
def isD (d : PyData) (T : String) : Bool := tyD d == T || (tyD d == "bool" && T == "int")
theorem kit_all : (["NoneType", "bool", "int", "str", "list", "tuple", "dict"].all fun t => ["int", "bool", "str", "list", "tuple", "dict"].all fun T => kitB t T == some (t == T || (t == "bool" && T == "int"))) = true := by decide +kernel
theorem tyD_mem (d : PyData) : tyD d ∈ ["NoneType", "bool", "int", "str", "list", "tuple", "dict"] := match d with
  | .none => .head _
  | .bool _ => .tail _ (.head _)
  | .int _ => .tail _ (.tail _ (.head _))
  | .str _ => .tail _ (.tail _ (.tail _ (.head _)))
  | .list _ => .tail _ (.tail _ (.tail _ (.tail _ (.head _))))
  | .tuple _ => .tail _ (.tail _ (.tail _ (.tail _ (.tail _ (.head _)))))
  | .dict _ => .tail _ (.tail _ (.tail _ (.tail _ (.tail _ (.tail _ (.head _))))))
theorem kitD {T : String} (h : T ∈ ["int", "bool", "str", "list", "tuple", "dict"]) : PySem.W.kitOne K (.type (tyD d)) (.type T) = some (isD d T) :=
  kit_ty (beq_iff_eq.mp (List.all_eq_true.mp (List.all_eq_true.mp kit_all _ (tyD_mem d)) _ h))
theorem cbt_isi {T : String} (h : T ∈ ["int", "bool", "str", "list", "tuple", "dict"] := by decide) : CbT W (rIsi K) [dt K d, isV (.ty T)] (dt K (.bool (isD d T))) := fun us H c hu Q q => by
  match us, hu with
  | [v, t], hu =>
    obtain ⟨h1, h2, _⟩ := hu
    cases h2
    exact ⟨v, .ty T, _, .type T, _, rfl, .ty T, Rp.ty h1, kitD h, q _ H (Ex.refl W.B H) (.bl _)⟩
theorem ty_isi2 {te : TE} {T S : String} (h : Ty W Γ te (dt K d)) (hT : T ∈ ["int", "bool", "str", "list", "tuple", "dict"] := by decide) (hS : S ∈ ["int", "bool", "str", "list", "tuple", "dict"] := by decide) :
    Ty W Γ (tCB (rIsiT K) (tCons te (tCons (tTup (tCons (tC (.ty T)) (tCons (tC (.ty S)) tNil))) tNil))) (dt K (.bool (isD d T || isD d S))) := fun σ H c g Q q => by
  refine h σ H c g _ fun v H1 e1 hv => ⟨sz_le (by show 2 ≤ 1000000; decide), fun p hp => ?_⟩
  refine ⟨v, p, [.ty T, .ty S], _, [.type T, .type S], _, rfl, upd_same, .cons (.ty T) (.cons (.ty S) .nil), Rp.ty (Rp.up (Ex.new (B := W.B) hp).toW hv), ?_, q _ _ (e1.trans (Ex.new hp)) (.bl _)⟩
  refine kitAny_cons (kitD hT) (fun z => kitAny_cons (kitD hS) (fun z' => ?_) fun z' => ?_) fun z => ?_
  · rw [z, z']; exact kitAny_nil
  · rw [z, z']; rfl
  · rw [z]; rfl
end
end Ew

end
section
set_option Elab.async false
set_option linter.all false
set_option maxRecDepth 100000
set_option maxHeartbeats 1000000
/-! EwD: walks, comprehensions, loops, by types. -/
namespace Ew
open PySem PySem.Spec PyProof.Rows L2
theorem TysV.one {M B : Addr → Prop} {A : Typ} {us : List V} {H : Hp} (h : TysV M B [A] us H) : ∃ v, us = [v] ∧ A.p M B v H := by
  match us, h with
  | [v], h => exact ⟨v, rfl, h.1⟩
theorem TysV.two {M B : Addr → Prop} {A C : Typ} {us : List V} {H : Hp} (h : TysV M B [A, C] us H) : ∃ v w, us = [v, w] ∧ A.p M B v H ∧ C.p M B w H := by
  match us, h with
  | [v, w], h => exact ⟨v, w, rfl, h.1, h.2.1⟩
/-- M, or M and something new -/
def MOk (W : Wd) (H : Hp) (M' : Addr → Prop) : Prop := M' = W.M ∨ ∃ D, H D = none ∧ M' = ad W.M D
theorem MOk.tys {W : Wd} {H : Hp} {M' : Addr → Prop} (m : MOk W H M') {Ts : List Typ} {xs : List V} (h : TysV W.M W.B Ts xs H) : TysV M' W.B Ts xs H := by
  rcases m with rfl | ⟨D, n, rfl⟩
  · exact h
  · exact h.weak n
theorem MOk.nm {W : Wd} {H : Hp} {M' : Addr → Prop} (m : MOk W H M') {a : Addr} {o : HO} (h : H a = some o) (n : ¬ W.M a) : ¬ M' a := by
  rcases m with rfl | ⟨D, q, rfl⟩
  · exact n
  · exact fun z => z.elim n (ne_of_none h q)
theorem MOk.sub {W : Wd} {H : Hp} {M' : Addr → Prop} (m : MOk W H M') : ∀ a, W.B a → M' a := by
  rcases m with rfl | ⟨D, q, rfl⟩
  · exact W.sub
  · exact fun a h => .inl (W.sub a h)
/-- from H on the walk J yields values of the types Ts -/
def WalkT (W : Wd) (J : It) (Ts : List Typ) (H : Hp) : Prop := ∃ (G : Hp → Prop) (Y : Nat → Hp → V → Hp → Prop), Walk J Ts.length G Y ∧ G H ∧ ∀ M', MOk W H M' → (∀ Ha Hb, Exm M' W.B Ha Hb → G Ha → G Hb) ∧
  ∀ i Ha x Hb T, Ts[i]? = some T → Exm M' W.B H Ha → G Ha → Y i Ha x Hb → Ex W.B Ha Hb ∧ T.p M' W.B x Hb
section
variable (W : Wd) (Γ : Gam)
def TyI (wi : TI) (Ts : List Typ) : Prop := ∀ σ H, Cxt W H → EnvW W Γ σ H → ∀ R : It → Hp → Prop, (∀ J H1, Ex W.B H H1 → WalkT W J Ts H1 → R J H1) → wi σ H R
/-- a target: the slots behind it -/
def TyG (g : TG) (T : Typ) (Γ' : Gam) : Prop := ∀ v σ H, Cxt W H → EnvW W Γ σ H → T.at W v H → ∀ Q : Sx → Hp → Prop, (∀ σ' H', Ex W.B H H' → EnvW W Γ' σ' H' → Q σ' H') → g v σ H Q
def TyGs (g : TGs) (Ts : List Typ) (Γ' : Gam) : Prop := ∀ vs σ H, Cxt W H → EnvW W Γ σ H → TysV W.M W.B Ts vs H → ∀ Q : Sx → Hp → Prop, (∀ σ' H', Ex W.B H H' → EnvW W Γ' σ' H' → Q σ' H') → g vs σ H Q
end
/-- the target changes slots of vs alone; what is asked may be weakened -/
structure GOk (g : TG) (vs : List Nat) : Prop where
  kept : ∀ v σ H Q, g v σ H Q → g v σ H fun σ' H' => L2.wipe σ' vs = L2.wipe σ vs ∧ Q σ' H'
  mono : ∀ v σ H (Q Q' : Sx → Hp → Prop), (∀ σ' H', Q σ' H' → Q' σ' H') → g v σ H Q → g v σ H Q'
structure GsOk (g : TGs) (vs : List Nat) : Prop where
  kept : ∀ v σ H Q, g v σ H Q → g v σ H fun σ' H' => L2.wipe σ' vs = L2.wipe σ vs ∧ Q σ' H'
  mono : ∀ v σ H (Q Q' : Sx → Hp → Prop), (∀ σ' H', Q σ' H' → Q' σ' H') → g v σ H Q → g v σ H Q'
theorem wipe_set {i : Nat} {x : Option V} : ∀ {vs : List Nat} {σ : Sx}, i ∈ vs → L2.wipe (σ.set i x) vs = L2.wipe σ vs
  | [], _, h => by cases h
  | v :: vs, σ, h => by
    show (L2.wipe (σ.set i x) vs).set v none = (L2.wipe σ vs).set v none
    by_cases e : i ∈ vs
    · rw [wipe_set e]
    · have ev : i = v := by
        rcases List.mem_cons.mp h with z | z
        · exact z
        · exact absurd z e
      subst ev
      have comm : ∀ {ws : List Nat} {τ : Sx}, i ∉ ws → L2.wipe (τ.set i x) ws = (L2.wipe τ ws).set i x := by
        intro ws
        induction ws with
        | nil => intro τ _; rfl
        | cons w ws ih =>
          intro τ hn
          have h1 : i ≠ w := fun z => hn (by rw [z]; exact List.mem_cons_self ..)
          have h2 : i ∉ ws := fun z => hn (List.mem_cons_of_mem _ z)
          show (L2.wipe (τ.set i x) ws).set w none = ((L2.wipe τ ws).set w none).set i x
          rw [ih h2, List.set_comm _ _ h1]
      rw [comm e, List.set_set]
theorem wipe_wipe {σ : Sx} {vs : List Nat} : ∀ {ws : List Nat}, (∀ v ∈ ws, v ∈ vs) → L2.wipe (L2.wipe σ ws) vs = L2.wipe σ vs
  | [], _ => rfl
  | w :: ws, h => by
    show L2.wipe ((L2.wipe σ ws).set w none) vs = _
    rw [wipe_set (h w (List.mem_cons_self ..)), wipe_wipe fun v hv => h v (List.mem_cons_of_mem _ hv)]
section
variable {W : Wd} {Γ Γ' : Gam} {K : PySem.W.Frag} {T U A C P : Typ} {Ts Us : List Typ} {ds : List PyData} {d : PyData} {ta : TA} {te : TE} {g : TG} {gs : TGs} {vs : List Nat}
theorem gok_name (i : Nat) (h : i ∈ vs) : GOk (gName i) vs := ⟨fun v σ H Q q => ⟨wipe_set h, q⟩, fun _ _ _ _ _ h q => h _ _ q⟩
theorem gok_nil : GsOk gNil vs := ⟨fun v σ H Q ⟨h, q⟩ => ⟨h, rfl, q⟩, fun _ _ _ _ _ h q => ⟨q.1, h _ _ q.2⟩⟩
theorem gok_cons (h : GOk g vs) (k : GsOk gs vs) : GsOk (gCons g gs) vs :=
  ⟨fun v σ H Q ⟨x, r, e, q⟩ => ⟨x, r, e, h.mono _ _ _ _ _ (fun σ1 H1 ⟨w1, z⟩ => k.mono _ _ _ _ _ (fun σ2 H2 ⟨w2, z2⟩ => ⟨w2.trans w1, z2⟩) (k.kept _ _ _ _ z)) (h.kept _ _ _ _ q)⟩,
    fun v σ H Q Q' hq ⟨x, r, e, q⟩ => ⟨x, r, e, h.mono _ _ _ _ _ (fun σ' H' z => k.mono _ _ _ _ _ hq z) q⟩⟩
theorem gok_tup {n : Nat} (h : GsOk gs vs) : GOk (gTup K n gs) vs := ⟨fun v σ H Q ⟨a, xs, e, s, l, q⟩ => ⟨a, xs, e, s, l, h.kept _ _ _ _ q⟩, fun v σ H Q Q' hq ⟨a, xs, e, s, l, q⟩ => ⟨a, xs, e, s, l, h.mono _ _ _ _ _ hq q⟩⟩
theorem gok_unl {n : Nat} (h : GsOk gs vs) : GOk (gUnl K n gs) vs := ⟨fun v σ H Q ⟨a, xs, e, s, l, q⟩ => ⟨a, xs, e, s, l, h.kept _ _ _ _ q⟩, fun v σ H Q Q' hq ⟨a, xs, e, s, l, q⟩ => ⟨a, xs, e, s, l, h.mono _ _ _ _ _ hq q⟩⟩
theorem tyg_name (i : Nat) : TyG W Γ (gName i) T (Γ.set i (some T)) := fun v σ H c g hv Q q => q _ H (Ex.refl _ _) (EnvL.set hv g)
theorem tygs_nil : TyGs W Γ gNil [] Γ := fun vs σ H c g hv Q q => by
  match vs, hv with
  | [], _ => exact ⟨rfl, q _ _ (Ex.refl _ _) g⟩
theorem tygs_cons {Γ1 Γ2 : Gam} (h : TyG W Γ g T Γ1) (k : TyGs W Γ1 gs Ts Γ2) : TyGs W Γ (gCons g gs) (T :: Ts) Γ2 := fun vs σ H c e hv Q q => by
  match vs, hv with
  | v :: vs, hv => exact ⟨v, vs, rfl, h v σ H c e hv.1 _ fun σ1 H1 e1 g1 => k vs σ1 H1 (c.up e1) g1 (hv.2.up e1.toW) Q fun σ2 H2 e2 g2 => q σ2 H2 (e1.trans e2) g2⟩
theorem tyg_tup {n : Nat} (h : TyGs W Γ gs Ts Γ') (hn : Ts.length = n := by rfl) : TyG W Γ (gTup K n gs) (tupT K Ts) Γ' := fun v σ H c g ⟨a, xs, h1, h2, h3⟩ Q q => ⟨a, xs, h1, h2, by rw [h3.length, hn], h xs σ H c g h3 Q q⟩
theorem tyg_unl {n : Nat} (h : TyGs W Γ gs Ts Γ') (hn : Ts.length = n := by rfl) : TyG W Γ (gUnl K n gs) (lstT Ts) Γ' := fun v σ H c g ⟨a, xs, h1, h0, h2, h3⟩ Q q => ⟨a, xs, h1, SqL.of h2, by rw [h3.length, hn], h xs σ H c g h3 Q q⟩
theorem TyG.sub (h : TyG W Γ g T Γ') (k : ∀ v H, U.at W v H → T.at W v H) : TyG W Γ g U Γ' := fun v σ H c e hv Q q => h v σ H c e (k v H hv) Q q
/-! ### what is walked -/
/-- over a tuple -/
theorem tyi_tup (h : Ty W Γ te (tupT K Ts)) : TyI W Γ (iTup K te) Ts := fun σ H c g R q => h σ H c g _ fun v H1 e ⟨a, xs, h1, h2, h3⟩ => by
  subst h1
  refine ⟨a, rfl, ⟨xs, h2⟩, q _ H1 e ⟨fun H => SqT K H a xs, YAt xs, by rw [← h3.length]; exact walk_tup, h2, fun M' m => ⟨fun Ha Hb f z => f.sqT z, fun i Ha x Hb T hT f z y => ?_⟩⟩⟩
  obtain ⟨rfl, y⟩ := y
  obtain ⟨w, h4, h5⟩ := (m.tys h3).get hT
  rw [h4] at y; cases y
  exact ⟨Ex.refl _ _, T.up f h5⟩
theorem tyi_tupD (h : Ty W Γ te (dt K (.tuple ds))) : TyI W Γ (iTup K te) (ds.map (dt K)) := tyi_tup (h.sub fun _ _ _ => data_tupT)
/-- over a list that stays -/
theorem tyi_lst (h : Ty W Γ te (lstT Ts)) : TyI W Γ (iList K te) Ts := fun σ H c g R q => h σ H c g _ fun v H1 e ⟨a, xs, h1, h0, h2, h3⟩ => by
  subst h1
  refine ⟨a, rfl, ⟨xs, SqL.of h2⟩, q _ H1 e ⟨fun H => SqL K H a xs, YAt xs, by rw [← h3.length]; exact walk_list, SqL.of h2, fun M' m => ⟨fun Ha Hb f z => f.sqL (m.nm h2 h0) z, fun i Ha x Hb T hT f z y => ?_⟩⟩⟩
  obtain ⟨rfl, y⟩ := y
  obtain ⟨w, h4, h5⟩ := (m.tys h3).get hT
  rw [h4] at y; cases y
  exact ⟨Ex.refl _ _, T.up f h5⟩
theorem tyi_lstD (h : Ty W Γ te (dt K (.list ds))) : TyI W Γ (iList K te) (ds.map (dt K)) := tyi_lst (h.sub fun _ _ _ => data_lstT)
theorem range_map_get {f : Nat → Typ} {n i : Nat} {T : Typ} (h : ((List.range n).map f)[i]? = some T) : i < n ∧ T = f i := by
  rw [List.getElem?_map] at h
  cases hr : (List.range n)[i]? with
  | none => rw [hr] at h; cases h
  | some k =>
    rw [hr] at h
    obtain ⟨hl, ek⟩ := List.getElem?_eq_some_iff.mp hr
    rw [List.getElem_range] at ek
    subst ek
    rw [List.length_range] at hl
    cases h
    exact ⟨hl, rfl⟩
/-- range(n) -/
theorem tyi_rng1 {n : Int} (h : TyA W Γ ta [dt K (.int n)]) (hn : n ≤ 1000000000) (h0 : -1000000000 ≤ n) : TyI W Γ (iRng1 ta) ((List.range n.toNat).map fun i => dt K (.int (i : Nat))) := fun σ H c g R q => h σ H c g _ fun us H1 e hu => by
  obtain ⟨v, rfl, h1⟩ := hu.one
  cases h1
  refine ⟨n, rfl, by omega, by omega, q _ H1 e ⟨fun _ => True, YFn fun i => .int (0 + i), by rw [List.length_map, List.length_range]; exact walk_range, True.intro, fun M' m => ⟨fun _ _ _ _ => True.intro, fun i Ha x Hb T hT f z y => ?_⟩⟩⟩
  obtain ⟨rfl, y⟩ := y
  obtain ⟨hl, rfl⟩ := range_map_get hT
  subst y
  refine ⟨Ex.refl _ _, ?_⟩
  show Rp M' K Hb (V.int (0 + (i : Int))) (.int (i : Int))
  rw [Int.zero_add]
  exact .int _
/-- enumerate(list) -/
theorem tyi_enumL (h : TyA W Γ ta [lstT Ts]) : TyI W Γ (iEnum K ta) ((List.range Ts.length).map fun i => tupT K [dt K (.int (i : Nat)), Ts.getD i (isV .non)]) := fun σ H c g R q => h σ H c g _ fun us H1 e hu => by
  obtain ⟨v, rfl, a, xs, rfl, h0, h2, h3⟩ := hu.one
  refine ⟨a, xs, rfl, SqL.of h2, q _ H1 e ⟨fun H => SqL K H a xs, YPair (fun i => some (.int (i : Nat))) (fun i => xs[i]?), by rw [List.length_map, List.length_range, ← h3.length]; exact walk_enum, SqL.of h2, fun M' m => ⟨fun Ha Hb f z => f.sqL (m.nm h2 h0) z, fun i Ha x Hb T hT f z y => ?_⟩⟩⟩
  obtain ⟨Tp, x0, y0, rfl, hn, rfl, ex, ey⟩ := y
  cases ex
  obtain ⟨hl, rfl⟩ := range_map_get hT
  obtain ⟨w, h4, h5⟩ := (m.tys h3).get (List.getElem?_eq_getElem hl)
  have ey' := h4.symm.trans ey
  cases ey'
  refine ⟨Ex.new hn, Tp, _, rfl, SqT.of upd_same, .int _, ?_, True.intro⟩
  show (Ts.getD i (isV .non)).p M' W.B y0 _
  rw [List.getD_eq_getElem?_getD, List.getElem?_eq_getElem hl]
  exact Typ.up _ (f.trans ((Ex.new (B := W.B) hn).toM m.sub)) h5
theorem zip_len {a b x y : Nat} (h : a = x) (k : b = y) : min x y = min a b := by rw [h, k]
theorem walk_zipT {a b : Addr} {xs ys : List V} {n : Nat} (hn : n = min xs.length ys.length) : Walk (RZ.ItzT K a b) n (fun H => SqT K H a xs ∧ SqT K H b ys) (YPair (fun i => xs[i]?) (fun i => ys[i]?)) := by
  subst hn
  refine ⟨fun i _ hi q => ?_, fun _ q => ⟨xs, ys, q.1, q.2, by omega⟩, fun i H v H' _ q y => ?_⟩
  · have h1 : i < xs.length := by omega
    have h2 : i < ys.length := by omega
    exact ⟨xs, ys, xs[i], ys[i], q.1, q.2, by simp [h1], by simp [h2]⟩
  · obtain ⟨T, x, z, h1, h2, h3, h4, h5⟩ := y
    exact ⟨T, x, z, h1, h2, h3, h4 xs q.1, h5 ys q.2⟩
theorem zip_map_get {i : Nat} {f : Typ × Typ → Typ} (h : ((Ts.zip Us).map f)[i]? = some T) : ∃ A C, Ts[i]? = some A ∧ Us[i]? = some C ∧ T = f (A, C) := by
  rw [List.getElem?_map] at h
  cases hr : (Ts.zip Us)[i]? with
  | none => rw [hr] at h; cases h
  | some p =>
    rw [hr] at h
    cases h
    obtain ⟨q1, q2⟩ := List.getElem?_zip_eq_some.mp hr
    exact ⟨_, _, q1, q2, rfl⟩
/-- zip of two tuples -/
theorem tyi_zipT (h : TyA W Γ ta [tupT K Ts, tupT K Us]) : TyI W Γ (RZ.iZipA K ta) ((Ts.zip Us).map fun p => tupT K [p.1, p.2]) := fun σ H c g R q => h σ H c g _ fun us H1 e hu => by
  obtain ⟨v, w, rfl, ⟨a, xs, rfl, h2, h3⟩, ⟨b, ys, rfl, h4, h5⟩⟩ := hu.two
  refine ⟨a, b, xs, ys, rfl, .inr ⟨h2, h4, q _ H1 e ⟨fun H => SqT K H a xs ∧ SqT K H b ys, YPair (fun i => xs[i]?) (fun i => ys[i]?), ?_, ⟨h2, h4⟩, fun M' m => ⟨fun Ha Hb f z => ⟨f.sqT z.1, f.sqT z.2⟩, fun i Ha x Hb T hT f z y => ?_⟩⟩⟩⟩
  · refine walk_zipT ?_
    rw [List.length_map, List.length_zip]
    exact zip_len h3.length h5.length
  · obtain ⟨Tp, x0, y0, rfl, hn, rfl, ex, ey⟩ := y
    obtain ⟨A, C, q1, q2, rfl⟩ := zip_map_get hT
    obtain ⟨x1, e1, r1⟩ := (m.tys h3).get q1
    obtain ⟨y1, e2, r2⟩ := (m.tys h5).get q2
    have ex' := e1.symm.trans ex
    cases ex'
    have ey' := e2.symm.trans ey
    cases ey'
    exact ⟨Ex.new hn, Tp, _, rfl, SqT.of upd_same, Typ.up _ (f.trans ((Ex.new (B := W.B) hn).toM m.sub)) r1, Typ.up _ (f.trans ((Ex.new (B := W.B) hn).toM m.sub)) r2, True.intro⟩
theorem filter_range_succ {f : Nat → Bool} {F : Nat → Typ} {n : Nat} : ((List.range (n + 1)).filter f).map F = ((List.range n).filter f).map F ++ (if f n = true then [F n] else []) := by
  rw [List.range_succ, List.filter_append, List.map_append]
  congr 1
  cases h : f n <;> simp [h]
theorem filter_range_len {f : Nat → Bool} {F : Nat → Typ} (n : Nat) : (((List.range n).filter f).map F).length ≤ n := by
  rw [List.length_map]
  exact Nat.le_trans (List.length_filter_le _ _) (by rw [List.length_range]; exact Nat.le_refl _)
/-! ### comprehensions -/
theorem tyl_lc {wi : TI} {tt : TT} (f : Nat → Bool) (F : Nat → Typ) (hi : TyI W Γ wi Ts) (hz : Ts.length ≤ 1000000) (gk : GOk g vs)
    (hs : ∀ (W' : Wd) i T, Ts[i]? = some T → ∃ Γi, TyG W' (wipeG Γ vs) g T Γi ∧ Tt W' Γi tt (· = f i) ∧ (f i = true → Ty W' Γi te (F i))) :
    TyL W Γ (tLc wi g tt te vs) (((List.range Ts.length).filter f).map F) := fun σ H c e Q q => by
  refine hi σ H c e _ fun J H1 e1 hw => ?_
  intro D hD
  obtain ⟨G, Y, w, hG, hup⟩ := hw
  obtain ⟨hup, hy⟩ := hup (W.ad D).M (.inr ⟨D, hD, rfl⟩)
  have c1 := c.up e1
  have bD : ¬ W.B D := c1.nb hD
  have toD : ∀ {Ha Hb : Hp}, Ex W.B Ha Hb → Exm (W.ad D).M W.B Ha Hb := fun z => Ex.toW (W := W.ad D) z
  have cD : ∀ {H2 : Hp}, Ex W.B H1 H2 → H2 D ≠ none → Cxt (W.ad D) H2 := fun {H2} e2 n => ⟨(c1.up e2).box, fun a h z => by
    rcases h with h | h
    · exact (c1.up e2).al a h z
    · rw [h] at z; exact n z, (c1.up e2).ex, (c1.up e2).own⟩
  have env1 : EnvL (W.ad D).M W.B Γ σ H1 := EnvL.weak hD (e.up e1.toW)
  refine lc_it w (fun i H2 => Ex W.B H1 H2 ∧ G H2 ∧ ∃ acc, H2 D = some (.lst acc) ∧ TysV (W.ad D).M W.B (((List.range i).filter f).map F) acc H2) ?_ (fun i H2 _ h => h.2.1) ?_ ?_
  · exact ⟨Ex.new hD, hup _ _ (toD (Ex.new hD)) hG, [], upd_same, True.intro⟩
  · rintro i x H2 H3 hi ⟨e2, hG2, acc, hacc, ht⟩ hx
    have hT : Ts[i]? = some (Ts[i]'hi) := List.getElem?_eq_getElem hi
    obtain ⟨e3, hxt⟩ := hy i H2 x H3 _ hT (toD e2) hG2 hx
    obtain ⟨Γi, k1, k2, k3⟩ := hs (W.ad D) i _ hT
    have d3 : H3 D = some (.lst acc) := e3.keep hacc bD
    have some_ne : ∀ {Hx : Hp} {o : HO}, Hx D = some o → Hx D ≠ none := fun h z => by rw [h] at z; cases z
    have env3 : EnvL (W.ad D).M W.B (wipeG Γ vs) (L2.wipe σ vs) H3 := (env1.up (toD (e2.trans e3))).wipe vs
    refine gk.mono _ _ _ _ _ ?_ (gk.kept _ _ _ _ (k1 x _ H3 (cD (e2.trans e3) (some_ne d3)) env3 hxt (fun σ4 H4 => Ex W.B H3 H4 ∧ EnvL (W.ad D).M W.B Γi σ4 H4) fun σ4 H4 e4 g4 => ⟨e4, g4⟩))
    rintro σ4 H4 ⟨w4, e4, g4⟩
    refine ⟨w4.trans (wipe_wipe fun _ h => h) |>.trans (wipe_wipe fun _ h => h).symm |>.trans (wipe_wipe fun _ h => h), ?_⟩
    have d4 : H4 D = some (.lst acc) := e4.keep d3 bD
    have e24 := e2.trans (e3.trans e4)
    refine k2 σ4 H4 (cD e24 (some_ne d4)) g4 _ fun b H5 e5 hb => ?_
    have e5' : Ex W.B H4 H5 := e5
    have d5 : H5 D = some (.lst acc) := e5'.keep d4 bD
    have lacc : acc.length ≤ i := by rw [ht.length]; exact filter_range_len i
    have e25 := (e3.trans e4).trans e5'
    cases b with
    | true =>
      rw [if_pos rfl]
      refine k3 hb.symm σ4 H5 (cD (e24.trans e5') (some_ne d5)) (g4.up (toD e5')) _ fun y H6 e6 hy6 => ?_
      have e6' : Ex W.B H5 H6 := e6
      have d6 : H6 D = some (.lst acc) := e6'.keep d5 bD
      have put : Exm (W.ad D).M W.B H6 (upd H6 D (.lst (acc ++ [y]))) := Exm.put (.inr rfl) bD d6
      refine ⟨acc, d6, sz_lt (by omega), ((e24.trans e5').trans e6').mut hD, hup _ _ put (hup _ _ (toD (e25.trans e6')) hG2), acc ++ [y], upd_same, ?_⟩
      rw [filter_range_succ, ← hb, if_pos rfl]
      exact ((ht.up (toD (e25.trans e6'))).append (show TysV (W.ad D).M W.B [F i] [y] H6 from ⟨hy6, True.intro⟩)).up put
    | false =>
      rw [if_neg Bool.false_ne_true]
      refine ⟨e24.trans e5', hup _ _ (toD e25) hG2, acc, d5, ?_⟩
      rw [filter_range_succ, ← hb, if_neg Bool.false_ne_true, List.append_nil]
      exact ht.up (toD e25)
  · rintro H2 ⟨e2, hG2, acc, hacc, ht⟩
    exact q D acc H2 (e1.trans e2) (e1.free hD) hacc ht.drop
theorem filter_yes {n : Nat} : (List.range n).filter (fun _ => true) = List.range n := List.filter_eq_self.mpr fun _ _ => rfl
/-- without a test -/
theorem tyl_lc1 {wi : TI} (F : Nat → Typ) (hi : TyI W Γ wi Ts) (hz : Ts.length ≤ 1000000) (gk : GOk g vs)
    (hs : ∀ (W' : Wd) i T, Ts[i]? = some T → ∃ Γi, TyG W' (wipeG Γ vs) g T Γi ∧ Ty W' Γi te (F i)) :
    TyL W Γ (tLc wi g tYes te vs) ((List.range Ts.length).map F) := by
  have h := tyl_lc (tt := tYes) (fun _ => true) F hi hz gk fun W' i T hT => by
    obtain ⟨Γi, h1, h2⟩ := hs W' i T hT
    exact ⟨Γi, h1, fun σ H c e Q q => q true H (Ex.refl _ _) rfl, fun _ => h2⟩
  rw [filter_yes] at h
  exact h
/-! ### loops -/
variable {N : Sx → Hp → Prop} {R : V → Hp → Prop} {Bk Ct : Sx → Hp → Prop}
/-- for: before turn i the slots are Γi i x in the world Wi i x, for some x -/
theorem tys_for {α : Type} {wi : TI} {tb : TS} (Wi : Nat → α → Wd) (Γi : Nat → α → Gam) (x0 : α) (hi : TyI W Γ wi Ts) (like : ∀ i x, W.Like (Wi i x)) (h0 : ∀ σ H, nE W Γ σ H → nE (Wi 0 x0) (Γi 0 x0) σ H)
    (hs : ∀ i T x, Ts[i]? = some T → ∃ Γt, TyG (Wi i x) (Γi i x) g T Γt ∧ TyS (Wi i x) Γt tb (fun σ H => ∃ y, nE (Wi (i + 1) y) (Γi (i + 1) y) σ H) R N (fun σ H => ∃ y, nE (Wi (i + 1) y) (Γi (i + 1) y) σ H))
    (hd : ∀ x σ H, nE (Wi Ts.length x) (Γi Ts.length x) σ H → N σ H) : TyS W Γ (tFor wi g tb) N R Bk Ct := fun σ H c e D dn dr db dc => by
  refine hi σ H c e _ fun J H1 e1 hw => ?_
  obtain ⟨G, Y, w, hG, hup⟩ := hw
  obtain ⟨hup, hy⟩ := hup W.M (.inl rfl)
  refine for_it w (D := D) (fun i σ2 H2 => Exm W.M W.B H1 H2 ∧ G H2 ∧ ∃ x, nE (Wi i x) (Γi i x) σ2 H2) ?_ (fun i σ2 H2 _ h => h.2.1) ?_ ?_
  · exact ⟨Exm.refl _ _ _, hG, x0, h0 σ H1 ⟨c.up e1, e.up e1.toW⟩⟩
  · rintro i v σ2 H2 H3 hi ⟨e2, hG2, x, c2, g2⟩ hx
    have hT : Ts[i]? = some (Ts[i]'hi) := List.getElem?_eq_getElem hi
    obtain ⟨e3, hxt⟩ := hy i H2 v H3 _ hT e2 hG2 hx
    obtain ⟨Γt, k1, k2⟩ := hs i _ x hT
    have l := like i x
    have e3' : Ex (Wi i x).B H2 H3 := by rw [l.b]; exact e3
    have hxt' : (Ts[i]'hi).at (Wi i x) v H3 := by show Typ.p _ _ _ _ _; rw [l.m, l.b]; exact hxt
    refine k1 v σ2 H3 (c2.up e3') (g2.up e3'.toW) hxt' _ fun σ4 H4 e4 g4 => ?_
    have e4b : Ex W.B H3 H4 := by rw [← l.b]; exact e4
    have e24 : Exm W.M W.B H2 H4 := (e3.trans e4b).toW
    refine k2 σ4 H4 ((c2.up e3').up e4) g4 _ (fun σ5 H5 e5 n5 => ⟨e2.trans (e24.trans (l.exm e5)), hup _ _ (e24.trans (l.exm e5)) hG2, n5⟩) dr (fun σ5 H5 e5 n5 => dn σ5 H5 (e1.toW.trans (e2.trans (e24.trans (l.exm e5)))) n5)
      (fun σ5 H5 e5 n5 => ⟨e2.trans (e24.trans (l.exm e5)), hup _ _ (e24.trans (l.exm e5)) hG2, n5⟩)
  · rintro σ2 H2 ⟨e2, hG2, x, n2⟩
    exact dn σ2 H2 (e1.toW.trans e2) (hd x σ2 H2 n2)
/-! ### calls that take a list -/
theorem lst_sq {M B : Addr → Prop} {v : V} {H : Hp} (h : (lstT Ts).p M B v H) : ∃ a xs, v = .ref a ∧ SqL K H a xs ∧ TysV M B Ts xs H := by
  obtain ⟨a, xs, h1, _, h2, h3⟩ := h
  exact ⟨a, xs, h1, SqL.of h2, h3⟩
theorem tys_ints {M B : Addr → Prop} {H : Hp} : ∀ {ns : List Int} {xs : List V}, TysV M B (ns.map fun n => dt K (.int n)) xs H → xs = ns.map V.int
  | [], [], _ => rfl
  | n :: ns, x :: xs, h => by
    obtain ⟨h1, h2⟩ := h
    cases h1
    rw [tys_ints h2, List.map_cons]
  | [], _ :: _, h => h.elim
  | _ :: _, [], h => h.elim
theorem tys_bools {M B : Addr → Prop} {H : Hp} : ∀ {bs : List Bool} {xs : List V}, TysV M B (bs.map fun b => dt K (.bool b)) xs H → xs = bs.map V.bl
  | [], [], _ => rfl
  | n :: ns, x :: xs, h => by
    obtain ⟨h1, h2⟩ := h
    cases h1
    rw [tys_bools h2, List.map_cons]
  | [], _ :: _, h => h.elim
  | _ :: _, [], h => h.elim
theorem cbt_sum {ns : List Int} : CbT W (rSum K) [lstT (ns.map fun n => dt K (.int n))] (dt K (.int ns.sum)) := fun us H c hu Q q => by
  obtain ⟨v, rfl, h⟩ := hu.one
  obtain ⟨a, xs, rfl, h1, h2⟩ := lst_sq (K := K) h
  have e := tys_ints h2
  subst e
  exact ⟨a, ns, rfl, h1, q _ H (Ex.refl _ _) (.int _)⟩
theorem cbt_all {bs : List Bool} : CbT W (rAll K) [lstT (bs.map fun b => dt K (.bool b))] (dt K (.bool (bs.all id))) := fun us H c hu Q q => by
  obtain ⟨v, rfl, h⟩ := hu.one
  obtain ⟨a, xs, rfl, h1, h2⟩ := lst_sq (K := K) h
  have e := tys_bools h2
  subst e
  exact ⟨a, bs, rfl, h1, q _ H (Ex.refl _ _) (.bl _)⟩
theorem cbt_max {ns : List Int} (hn : ns ≠ []) : CbT W (rMax K) [lstT (ns.map fun n => dt K (.int n))] (exT fun m : Int => gd (m ∈ ns ∧ ∀ y, y ∈ ns → y ≤ m) (dt K (.int m))) := fun us H c hu Q q => by
  obtain ⟨v, rfl, h⟩ := hu.one
  obtain ⟨a, xs, rfl, h1, h2⟩ := lst_sq (K := K) h
  have e := tys_ints h2
  subst e
  exact ⟨a, ns, rfl, h1, List.length_pos_iff.mpr hn, fun m m1 m2 => q _ H (Ex.refl _ _) ⟨m, ⟨m1, m2⟩, .int _⟩⟩
def rTupOf (K : PySem.W.Frag) : List V → Hp → VK → Prop := fun xs H Q => ∃ p ys, xs = [.ref p] ∧ ((SqL K H p ys ∧ ∀ l, H l = none → Q (.ref l) (upd H l (.tup ys))) ∨ (SqT K H p ys ∧ Q (.ref p) H))
theorem cbt_tupL : CbT W (rTupOf K) [lstT Ts] (tupT K Ts) := fun us H c hu Q q => by
  obtain ⟨v, rfl, h⟩ := hu.one
  obtain ⟨a, xs, rfl, h1, h2⟩ := lst_sq (K := K) h
  exact ⟨a, xs, rfl, .inl ⟨h1, fun l hl => q _ _ (Ex.new hl) ⟨l, xs, rfl, SqT.of upd_same, h2.up (Ex.new (B := W.B) hl).toW⟩⟩⟩
theorem cbt_tupT : CbT W (rTupOf K) [tupT K Ts] (tupT K Ts) := fun us H c hu Q q => by
  obtain ⟨v, rfl, a, xs, rfl, h1, h2⟩ := hu.one
  exact ⟨a, xs, rfl, .inr ⟨h1, q _ _ (Ex.refl _ _) ⟨a, xs, rfl, h1, h2⟩⟩⟩
def rLstOf (K : PySem.W.Frag) : List V → Hp → VK → Prop := fun xs H Q => ∃ p ys, xs = [.ref p] ∧ (SqL K H p ys ∨ SqT K H p ys) ∧ ∀ l, H l = none → Q (.ref l) (upd H l (.lst ys))
theorem cbl_lstL : CbL W (rLstOf K) [lstT Ts] Ts := fun us H c hu Q q => by
  obtain ⟨v, rfl, h⟩ := hu.one
  obtain ⟨a, xs, rfl, h1, h2⟩ := lst_sq (K := K) h
  exact ⟨a, xs, rfl, .inl h1, fun l hl => q l xs _ (Ex.new hl) hl upd_same (h2.up (Ex.new (B := W.B) hl).toW)⟩
theorem cbl_lstT : CbL W (rLstOf K) [tupT K Ts] Ts := fun us H c hu Q q => by
  obtain ⟨v, rfl, a, xs, rfl, h1, h2⟩ := hu.one
  exact ⟨a, xs, rfl, .inr h1, fun l hl => q l xs _ (Ex.new hl) hl upd_same (h2.up (Ex.new (B := W.B) hl).toW)⟩
/-- tuple([..]) -/
theorem ty_tupOf (h : TyL W Γ te Ts) : Ty W Γ (tCB (rTupOf K) (tCons te tNil)) (tupT K Ts) := ty_cb (tya_cons h.ty tya_nil) cbt_tupL
theorem ty_sumOf {ns : List Int} (h : TyL W Γ te (ns.map fun n => dt K (.int n))) : Ty W Γ (tCB (rSum K) (tCons te tNil)) (dt K (.int ns.sum)) := ty_cb (tya_cons h.ty tya_nil) cbt_sum
theorem ty_allOf {bs : List Bool} (h : TyL W Γ te (bs.map fun b => dt K (.bool b))) : Ty W Γ (tCB (rAll K) (tCons te tNil)) (dt K (.bool (bs.all id))) := ty_cb (tya_cons h.ty tya_nil) cbt_all
end
end Ew

end
section
set_option Elab.async false
set_option linter.all false
set_option maxRecDepth 100000
set_option maxHeartbeats 1000000
/-! EwG: short words for derivations. -/
namespace Ew
open PySem PySem.Spec PyProof.Rows L2
section
variable {X : Cx} {e : Expr} {es : List Expr} {t : TA} {p pos : Pos} {te : TE}
/-- what the text says of a def -/
structure Defn (K : PySem.W.Frag) (mg : Str → Option Value) (x : Str) (f : Addr) (fd : FuncData) (ps : List Str) : Prop where
  g : mg x = some (.ref f)
  k : PySem.W.keepIn K (.ref f) = true
  b : Binds K fd ps []
/-- a name as a target -/
theorem pgn (i : Nat) {x : Str} (nd : X.N.Nodup) (hi : X.N[i]? = some x := by rfl) (hx : Loc X.env.scope x := by first | exact Or.inl rfl | exact Or.inr rfl)
    (hf : X.fn x = true ∨ X.env.scope.names.lookup x = some .local := by first | exact .inl rfl | exact .inr rfl) : PG X (.Name x pos) (gName i) := pg_name nd hi hx hf
/-- x = e -/
theorem pset (i : Nat) {x : Str} {pos' : Pos} (nd : X.N.Nodup) (he : PE X e te) (hi : X.N[i]? = some x := by rfl) (hx : Loc X.env.scope x := by first | exact Or.inl rfl | exact Or.inr rfl) (hs : swapsWith e (some (.Name x pos')) pos.line X.env = pure false := by rfl)
    (hf : X.fn x = true ∨ X.env.scope.names.lookup x = some .local := by first | exact .inl rfl | exact .inr rfl) : PS X (.Assign [.Name x pos'] e pos) (tAsg te (gName i)) := ps_set nd hi hx he hs hf
/-- x = [.. for ..], x no cell -/
theorem psetLc (i : Nat) {y : Str} {py spos : Pos} {elt tg iter : Expr} {ifs : List Expr} {scope : Scope} (own : List (Str × Nat)) {wi : TI} {g : TG} {tt : TT} (nd : X.N.Nodup) (hi : PI X tg iter wi)
    (hg : ∀ (s : Shared) (H : Hp) (C : Addr) (cl : List (Str × Addr)) (fp : List Addr), PG (X.blk s H scope (compEnvC scope cl C X.env) fp) tg g) (ht : ∀ (s : Shared) (H : Hp) (C : Addr) (cl : List (Str × Addr)) (fp : List Addr), PTs (X.blk s H scope (compEnvC scope cl C X.env) fp) ifs tt)
    (he : ∀ (s : Shared) (H : Hp) (C : Addr) (cl : List (Str × Addr)) (fp : List Addr), PE (X.blk s H scope (compEnvC scope cl C X.env) fp) elt te)
    (ok : blkC X.N X.env.scope scope own = true) (hsw : swapsWith (.ListComp elt [⟨tg, iter, ifs, 0⟩] scope pos) (some (.Name y py)) spos.line X.env = pure true)
    (hc : X.calm = true := by rfl) (hy : X.N[i]? = some y := by rfl) (hyl : X.env.scope.names.lookup y = some .local := by rfl) (hs : ∀ x, foldedSetIterable iter X.env x = pure x := by intro _; rfl) :
    PS X (.Assign [.Name y py] (.ListComp elt [⟨tg, iter, ifs, 0⟩] scope pos) spos) (tAsg (tLc wi g tt te (own.map (·.2))) (gName i)) := ps_setLc hc nd hy hyl hsw hi (blkOk_by ok) hg ht he hs
/-- [.. for ..] -/
theorem plc {elt tg iter : Expr} {ifs : List Expr} {scope : Scope} (own : List (Str × Nat)) {wi : TI} {g : TG} {tt : TT} (nd : X.N.Nodup) (hi : PI X tg iter wi)
    (hg : ∀ (s : Shared) (H : Hp) (C : Addr) (cl : List (Str × Addr)) (fp : List Addr), PG (X.blk s H scope (compEnvC scope cl C X.env) fp) tg g) (ht : ∀ (s : Shared) (H : Hp) (C : Addr) (cl : List (Str × Addr)) (fp : List Addr), PTs (X.blk s H scope (compEnvC scope cl C X.env) fp) ifs tt)
    (he : ∀ (s : Shared) (H : Hp) (C : Addr) (cl : List (Str × Addr)) (fp : List Addr), PE (X.blk s H scope (compEnvC scope cl C X.env) fp) elt te)
    (ok : blkC X.N X.env.scope scope own = true) (hc : X.calm = true := by rfl) (hs : ∀ x, foldedSetIterable iter X.env x = pure x := by intro _; rfl) :
    PE X (.ListComp elt [⟨tg, iter, ifs, 0⟩] scope pos) (tLc wi g tt te (own.map (·.2))) := pe_lc hc nd hi (blkOk_by ok) hg ht he hs
/-- f(..), f a def -/
theorem pcall {f : Addr} {x : Str} {fd : FuncData} {ps : List Str} {sp : Sp} {k : Nat} (G : FnOk X.prog X.w X.K X.mg X.base (L2.CX X.prog X.w) k f fd ps sp) (hr : Room k X.A) (D : Defn X.K X.mg x f fd ps) (ha : PA X (e :: es) t)
    (hg : Gl X x := by rfl) (hdb : (x == ("__debug__" : Str)) = false := by decide) (he : starEach (e :: es) X.env = (false, eval e X.env) :: starEach es X.env := by rfl) (hpl : (backTo pos (starEach es X.env)).any (·.1) = false := by rfl) :
    PE X (.Call (.Name x p) (e :: es) [] pos) (tCall sp [] E0 t) := pe_call G hr hg D.g D.k D.b .nil passL ha hdb he hpl
section
variable (ha : PA X (e :: es) t)
theorem bi_len (m : X.mg "len" = none) (ha : PA X (e :: es) t) (hg : Gl X "len" := by rfl) (he : starEach (e :: es) X.env = (false, eval e X.env) :: starEach es X.env := by rfl) (hpl : (backTo pos (starEach es X.env)).any (·.1) = false := by rfl) :
    PE X (.Call (.Name "len" p) (e :: es) [] pos) (tCB (rLen X.K) t) := pe_callB call_len hg m PySem.boot_len ha (by decide) (by decide) he hpl
theorem bi_isi (m : X.mg "isinstance" = none) (ha : PA X (e :: es) t) (hg : Gl X "isinstance" := by rfl) (he : starEach (e :: es) X.env = (false, eval e X.env) :: starEach es X.env := by rfl) (hpl : (backTo pos (starEach es X.env)).any (·.1) = false := by rfl) :
    PE X (.Call (.Name "isinstance" p) (e :: es) [] pos) (tCB (rIsi X.K) t) := pe_callB call_isi hg m PyProof.Rows.boot_isinstance ha (by decide) (by decide) he hpl
theorem bi_isi2 (m : X.mg "isinstance" = none) (ha : PA X (e :: es) t) (hg : Gl X "isinstance" := by rfl) (he : starEach (e :: es) X.env = (false, eval e X.env) :: starEach es X.env := by rfl) (hpl : (backTo pos (starEach es X.env)).any (·.1) = false := by rfl) :
    PE X (.Call (.Name "isinstance" p) (e :: es) [] pos) (tCB (rIsiT X.K) t) := pe_callB call_isiT hg m PyProof.Rows.boot_isinstance ha (by decide) (by decide) he hpl
theorem bi_sum (m : X.mg "sum" = none) (ha : PA X (e :: es) t) (hc : X.calm = true := by rfl) (hg : Gl X "sum" := by rfl) (he : starEach (e :: es) X.env = (false, eval e X.env) :: starEach es X.env := by rfl) (hpl : (backTo pos (starEach es X.env)).any (·.1) = false := by rfl) :
    PE X (.Call (.Name "sum" p) (e :: es) [] pos) (tCB (rSum X.K) t) := pe_callB (cr_sum hc) hg m PyProof.Rows.boot_sum ha (by decide) (by decide) he hpl
theorem bi_all (m : X.mg "all" = none) (ha : PA X (e :: es) t) (hc : X.calm = true := by rfl) (hg : Gl X "all" := by rfl) (he : starEach (e :: es) X.env = (false, eval e X.env) :: starEach es X.env := by rfl) (hpl : (backTo pos (starEach es X.env)).any (·.1) = false := by rfl) :
    PE X (.Call (.Name "all" p) (e :: es) [] pos) (tCB (rAll X.K) t) := pe_callB (cr_all hc) hg m PyProof.Rows.boot_all ha (by decide) (by decide) he hpl
theorem bi_max1 (m : X.mg "max" = none) (ha : PA X (e :: es) t) (hc : X.calm = true := by rfl) (hg : Gl X "max" := by rfl) (he : starEach (e :: es) X.env = (false, eval e X.env) :: starEach es X.env := by rfl) (hpl : (backTo pos (starEach es X.env)).any (·.1) = false := by rfl) :
    PE X (.Call (.Name "max" p) (e :: es) [] pos) (tCB (rMax X.K) t) := pe_callB (cr_max hc) hg m PyProof.Rows.boot_max ha (by decide) (by decide) he hpl
abbrev rMax2 : List V → Hp → VK → Prop := fun xs H Q => ∃ i j, xs = [.int i, .int j] ∧ Q (.int (if j > i then j else i)) H
abbrev rMin2 : List V → Hp → VK → Prop := fun xs H Q => ∃ i j, xs = [.int i, .int j] ∧ Q (.int (if j < i then j else i)) H
theorem bi_max2 (m : X.mg "max" = none) (ha : PA X (e :: es) t) (hc : X.calm = true := by rfl) (hg : Gl X "max" := by rfl) (he : starEach (e :: es) X.env = (false, eval e X.env) :: starEach es X.env := by rfl) (hpl : (backTo pos (starEach es X.env)).any (·.1) = false := by rfl) :
    PE X (.Call (.Name "max" p) (e :: es) [] pos) (tCB rMax2 t) := pe_callB (call_max2 hc) hg m PyProof.Rows.boot_max ha (by decide) (by decide) he hpl
theorem bi_min2 (m : X.mg "min" = none) (ha : PA X (e :: es) t) (hc : X.calm = true := by rfl) (hg : Gl X "min" := by rfl) (he : starEach (e :: es) X.env = (false, eval e X.env) :: starEach es X.env := by rfl) (hpl : (backTo pos (starEach es X.env)).any (·.1) = false := by rfl) :
    PE X (.Call (.Name "min" p) (e :: es) [] pos) (tCB rMin2 t) := pe_callB (call_min2 hc) hg m PyProof.Rows.boot_min ha (by decide) (by decide) he hpl
abbrev rAbs : List V → Hp → VK → Prop := fun xs H Q => ∃ i, xs = [.int i] ∧ Q (.int (if i < 0 then -i else i)) H
theorem bi_abs (m : X.mg "abs" = none) (ha : PA X (e :: es) t) (hg : Gl X "abs" := by rfl) (he : starEach (e :: es) X.env = (false, eval e X.env) :: starEach es X.env := by rfl) (hpl : (backTo pos (starEach es X.env)).any (·.1) = false := by rfl) :
    PE X (.Call (.Name "abs" p) (e :: es) [] pos) (tCB rAbs t) := pe_callB call_abs hg m PyProof.Rows.boot_abs ha (by decide) (by decide) he hpl
abbrev rInt : List V → Hp → VK → Prop := fun xs H Q => (∃ i, xs = [.int i] ∧ Q (.int i) H) ∨ ∃ k, xs = [.bl k] ∧ Q (.int (if k then 1 else 0)) H
theorem bi_int (m : X.mg "int" = none) (ha : PA X (e :: es) t) (hg : Gl X "int" := by rfl) (he : starEach (e :: es) X.env = (false, eval e X.env) :: starEach es X.env := by rfl) (hpl : (backTo pos (starEach es X.env)).any (·.1) = false := by rfl) :
    PE X (.Call (.Name "int" p) (e :: es) [] pos) (tCB rInt t) := pe_callTy call_int1 hg m PyProof.Rows.boot_int ha (by decide) (by decide) he hpl
theorem bi_tuple (m : X.mg "tuple" = none) (ha : PA X (e :: es) t) (hg : Gl X "tuple" := by rfl) (he : starEach (e :: es) X.env = (false, eval e X.env) :: starEach es X.env := by rfl) (hpl : (backTo pos (starEach es X.env)).any (·.1) = false := by rfl) :
    PE X (.Call (.Name "tuple" p) (e :: es) [] pos) (tCB (rTupOf X.K) t) := pe_callTy call_tuple_of hg m PyProof.Rows.boot_tuple ha (by decide) (by decide) he hpl
theorem bi_list (m : X.mg "list" = none) (ha : PA X (e :: es) t) (hg : Gl X "list" := by rfl) (he : starEach (e :: es) X.env = (false, eval e X.env) :: starEach es X.env := by rfl) (hpl : (backTo pos (starEach es X.env)).any (·.1) = false := by rfl) :
    PE X (.Call (.Name "list" p) (e :: es) [] pos) (tCB (rLstOf X.K) t) := pe_callTy call_list_of hg m PyProof.Rows.boot_list ha (by decide) (by decide) he hpl
end
/-- a built-in class as a value -/
theorem bt_int (m : X.mg "int" = none) (hg : Gl X "int" := by rfl) : PE X (.Name "int" pos) (tC (.ty "int")) := pe_bltn hg m PyProof.Rows.boot_int rfl (by decide) (by decide)
theorem bt_bool (m : X.mg "bool" = none) (hg : Gl X "bool" := by rfl) : PE X (.Name "bool" pos) (tC (.ty "bool")) := pe_bltn hg m PyProof.Rows.boot_bool rfl (by decide) (by decide)
theorem bt_str (m : X.mg "str" = none) (hg : Gl X "str" := by rfl) : PE X (.Name "str" pos) (tC (.ty "str")) := pe_bltn hg m PyProof.Rows.boot_str rfl (by decide) (by decide)
theorem bt_list (m : X.mg "list" = none) (hg : Gl X "list" := by rfl) : PE X (.Name "list" pos) (tC (.ty "list")) := pe_bltn hg m PyProof.Rows.boot_list rfl (by decide) (by decide)
theorem bt_tuple (m : X.mg "tuple" = none) (hg : Gl X "tuple" := by rfl) : PE X (.Name "tuple" pos) (tC (.ty "tuple")) := pe_bltn hg m PyProof.Rows.boot_tuple rfl (by decide) (by decide)
theorem bt_dict (m : X.mg "dict" = none) (hg : Gl X "dict" := by rfl) : PE X (.Name "dict" pos) (tC (.ty "dict")) := pe_bltn hg m PyProof.Rows.boot_dict rfl (by decide) (by decide)
/-- an int of the module -/
theorem pglob {x : Str} {n : Int} (hm : ∃ tk, X.mg x = some (.int n tk)) (hg : Gl X x := by rfl) (hd : (x == ("__debug__" : Str)) = false := by decide) : PE X (.Name x pos) (tC (.int n)) := by
  obtain ⟨tk, h⟩ := hm
  exact pe_glob hg h ⟨_, rfl⟩ hd
end
section
variable {W : Wd} {Γ : Gam} {K : PySem.W.Frag} {i j : Int} {b : Bool}
theorem cbt_abs : CbT W rAbs [dt K (.int i)] (dt K (.int (if i < 0 then -i else i))) := fun us H c hu Q q => by
  obtain ⟨v, rfl, h⟩ := hu.one
  cases h
  exact ⟨i, rfl, q _ H (Ex.refl _ _) (.int _)⟩
theorem cbt_max2 : CbT W rMax2 [dt K (.int i), dt K (.int j)] (dt K (.int (if j > i then j else i))) := fun us H c hu Q q => by
  obtain ⟨v, w, rfl, h, k⟩ := hu.two
  cases h
  cases k
  exact ⟨i, j, rfl, q _ H (Ex.refl _ _) (.int _)⟩
theorem cbt_min2 : CbT W rMin2 [dt K (.int i), dt K (.int j)] (dt K (.int (if j < i then j else i))) := fun us H c hu Q q => by
  obtain ⟨v, w, rfl, h, k⟩ := hu.two
  cases h
  cases k
  exact ⟨i, j, rfl, q _ H (Ex.refl _ _) (.int _)⟩
theorem cbt_intI : CbT W rInt [dt K (.int i)] (dt K (.int i)) := fun us H c hu Q q => by
  obtain ⟨v, rfl, h⟩ := hu.one
  cases h
  exact .inl ⟨i, rfl, q _ H (Ex.refl _ _) (.int _)⟩
theorem cbt_intB : CbT W rInt [dt K (.bool b)] (dt K (.int (if b then 1 else 0))) := fun us H c hu Q q => by
  obtain ⟨v, rfl, h⟩ := hu.one
  cases h
  exact .inr ⟨b, rfl, q _ H (Ex.refl _ _) (.int _)⟩
end
end Ew

end
section
set_option Elab.async false
set_option linter.all false
set_option maxRecDepth 100000
set_option maxHeartbeats 1000000
/-! EwE: comprehensions over lists of anything; more operators. -/
namespace Ew
open PySem PySem.Spec PyProof.Rows L2
section
variable {W : Wd} {Γ Γ' : Gam} {K : PySem.W.Frag} {T U A C P : Typ} {Ts Us : List Typ} {ds es : List PyData} {d : PyData} {ta : TA} {te tb : TE} {g : TG} {gs : TGs} {vs : List Nat} {α : Type} {xs : List α} {j : Nat} {wi : TI} {tt : TT}
theorem ty_andF (h1 : Ty W Γ te (dt K (.bool false))) : Ty W Γ (tAndV te tb) (dt K (.bool false)) := (ty_andV (b := false) h1 fun z => Bool.noConfusion z).is rfl
theorem ty_orTr (h1 : Ty W Γ te (dt K (.bool true))) : Ty W Γ (tOrV te tb) (dt K (.bool true)) := (ty_orV (b := true) h1 fun z => Bool.noConfusion z).is rfl
theorem tt_andF {tu : TT} (h1 : Tt W Γ tt (· = false)) : Tt W Γ (tAnd tt tu) (· = false) := (tt_andB (b := false) h1 fun z => Bool.noConfusion z).is rfl
theorem tt_orTr {tu : TT} (h1 : Tt W Γ tt (· = true)) : Tt W Γ (tOr tt tu) (· = true) := (tt_orB (b := true) h1 fun z => Bool.noConfusion z).is rfl
theorem range_map_getD (F : α → Typ) (y : α) : (List.range xs.length).map (fun i => F (xs.getD i y)) = xs.map F := by
  apply List.ext_getElem
  · simp
  · intro i h1 h2
    have hi : i < xs.length := by simpa using h2
    simp [List.getD_eq_getElem?_getD, List.getElem?_eq_getElem hi]
/-- a comprehension over what comes from xs -/
theorem tyl_mapT (A F : α → Typ) (hi : TyI W Γ wi (xs.map A)) (hz : xs.length ≤ 1000000) (gk : GOk g vs)
    (hs : ∀ (W' : Wd) x, x ∈ xs → ∃ Γi, TyG W' (wipeG Γ vs) g (A x) Γi ∧ Ty W' Γi te (F x)) : TyL W Γ (tLc wi g tYes te vs) (xs.map F) := by
  cases xs with
  | nil =>
    have h := tyl_lc1 (te := te) (fun _ => isV .non) hi (by simpa using hz) gk fun W' i T hT => by simp at hT
    simpa using h
  | cons y ys =>
    have h := tyl_lc1 (te := te) (fun i => F ((y :: ys).getD i y)) hi (by simpa using hz) gk fun W' i T hT => by
      rw [List.getElem?_map] at hT
      cases e : (y :: ys)[i]? with
      | none => rw [e] at hT; cases hT
      | some x =>
        rw [e] at hT
        cases hT
        obtain ⟨Γi, h1, h2⟩ := hs W' x (List.mem_of_getElem? e)
        refine ⟨Γi, h1, ?_⟩
        rw [List.getD_eq_getElem?_getD, e]
        exact h2
    rw [List.length_map, range_map_getD F y] at h
    exact h
/-- .. its items in the slot j -/
theorem tyl_map (A F : α → Typ) (hi : TyI W Γ wi (xs.map A)) (hz : xs.length ≤ 1000000) (hj : j ∈ vs) (hs : ∀ (W' : Wd) x, x ∈ xs → Ty W' ((wipeG Γ vs).set j (some (A x))) te (F x)) :
    TyL W Γ (tLc wi (gName j) tYes te vs) (xs.map F) := tyl_mapT A F hi hz (gok_name j hj) fun W' x hx => ⟨_, tyg_name j, hs W' x hx⟩
theorem filter_range_getD (F : α → Typ) (p : α → Bool) (y : α) : ((List.range xs.length).filter fun i => p (xs.getD i y)).map (fun i => F (xs.getD i y)) = (xs.filter p).map F := by
  have key : ∀ (l : List α), (∀ n, (List.range n).filterMap (fun i => if p (l.getD i y) = true then some (F (l.getD i y)) else none) = ((l ++ List.replicate (n - l.length) y).take n).filterMap fun x => if p x = true then some (F x) else none) := by
    intro l n
    have e : (List.range n).map (fun i => l.getD i y) = (l ++ List.replicate (n - l.length) y).take n := by
      apply List.ext_getElem
      · simp; omega
      · intro i h1 h2
        have hi : i < n := by simpa using h1
        simp only [List.getElem_map, List.getElem_range, List.getElem_take, List.getD_eq_getElem?_getD]
        by_cases hl : i < l.length
        · rw [List.getElem?_eq_getElem hl, List.getElem_append_left hl]; rfl
        · rw [List.getElem?_eq_none (by omega), List.getElem_append_right (by omega), List.getElem_replicate]; rfl
    rw [← e, List.filterMap_map]
    rfl
  have h := key xs xs.length
  rw [Nat.sub_self, List.replicate_zero, List.append_nil, List.take_length] at h
  have f1 : ∀ (l : List Nat), (l.filter fun i => p (xs.getD i y)).map (fun i => F (xs.getD i y)) = l.filterMap (fun i => if p (xs.getD i y) = true then some (F (xs.getD i y)) else none) := by
    intro l
    induction l with
    | nil => rfl
    | cons a l ih =>
      rw [List.filter_cons, List.filterMap_cons]
      by_cases c : p (xs.getD a y) = true
      · rw [if_pos c, if_pos c, List.map_cons, ih]
      · rw [if_neg c, if_neg c, ih]
  have f2 : ∀ (l : List α), (l.filter p).map F = l.filterMap (fun x => if p x = true then some (F x) else none) := by
    intro l
    induction l with
    | nil => rfl
    | cons a l ih =>
      rw [List.filter_cons, List.filterMap_cons]
      by_cases c : p a = true
      · rw [if_pos c, if_pos c, List.map_cons, ih]
      · rw [if_neg c, if_neg c, ih]
  rw [f1, f2, h]
/-- .. with a test -/
theorem tyl_filterT (A F : α → Typ) (p : α → Bool) (hi : TyI W Γ wi (xs.map A)) (hz : xs.length ≤ 1000000) (gk : GOk g vs)
    (hs : ∀ (W' : Wd) x, x ∈ xs → ∃ Γi, TyG W' (wipeG Γ vs) g (A x) Γi ∧ Tt W' Γi tt (· = p x) ∧ (p x = true → Ty W' Γi te (F x))) : TyL W Γ (tLc wi g tt te vs) ((xs.filter p).map F) := by
  cases xs with
  | nil =>
    have h := tyl_lc (te := te) (tt := tt) (fun _ => true) (fun _ => isV .non) hi (by simpa using hz) gk fun W' i T hT => by simp at hT
    simpa using h
  | cons y ys =>
    have h := tyl_lc (te := te) (tt := tt) (fun i => p ((y :: ys).getD i y)) (fun i => F ((y :: ys).getD i y)) hi (by simpa using hz) gk fun W' i T hT => by
      rw [List.getElem?_map] at hT
      cases e : (y :: ys)[i]? with
      | none => rw [e] at hT; cases hT
      | some x =>
        rw [e] at hT
        cases hT
        obtain ⟨Γi, h1, h2, h3⟩ := hs W' x (List.mem_of_getElem? e)
        refine ⟨Γi, h1, ?_, fun z => ?_⟩
        · rw [List.getD_eq_getElem?_getD, e]
          exact h2
        · rw [List.getD_eq_getElem?_getD, e] at z ⊢
          exact h3 z
    rw [List.length_map, filter_range_getD F p y] at h
    exact h
theorem tyl_filter (A F : α → Typ) (p : α → Bool) (hi : TyI W Γ wi (xs.map A)) (hz : xs.length ≤ 1000000) (hj : j ∈ vs)
    (hs : ∀ (W' : Wd) x, x ∈ xs → Tt W' ((wipeG Γ vs).set j (some (A x))) tt (· = p x) ∧ (p x = true → Ty W' ((wipeG Γ vs).set j (some (A x))) te (F x))) : TyL W Γ (tLc wi (gName j) tt te vs) ((xs.filter p).map F) :=
  tyl_filterT A F p hi hz (gok_name j hj) fun W' x hx => ⟨_, tyg_name j, hs W' x hx⟩
theorem ty_sumG {f : α → Int} (h : TyL W Γ te (xs.map fun x => dt K (.int (f x)))) : Ty W Γ (tCB (rSum K) (tCons te tNil)) (dt K (.int (xs.map f).sum)) := ty_sumOf (ns := xs.map f) (by rw [List.map_map]; exact h)
theorem ty_allG {p : α → Bool} (h : TyL W Γ te (xs.map fun x => dt K (.bool (p x)))) : Ty W Γ (tCB (rAll K) (tCons te tNil)) (dt K (.bool (xs.all p))) := (ty_allOf (bs := xs.map p) (by rw [List.map_map]; exact h)).is (by rw [List.all_map]; rfl)
theorem ty_tupG {f : α → PyData} (h : TyL W Γ te (xs.map fun x => dt K (f x))) : Ty W Γ (tCB (rTupOf K) (tCons te tNil)) (dt K (.tuple (xs.map f))) := (ty_tupOf (K := K) h).sub fun v H _ z => tupT_data (by rw [List.map_map]; exact z)
theorem ty_lstG {f : α → PyData} (h : TyL W Γ te (xs.map fun x => dt K (f x))) : Ty W Γ te (dt K (.list (xs.map f))) := h.ty.sub fun v H _ z => lstT_data (K := K) (by rw [List.map_map]; exact z)
/-- data one by one -/
theorem tyi_tupA {f : α → PyData} (h : Ty W Γ te (dt K (.tuple (xs.map f)))) : TyI W Γ (iTup K te) (xs.map fun x => dt K (f x)) := by
  have z := tyi_tupD h
  rw [List.map_map] at z
  exact z
theorem tyi_lstA {f : α → PyData} (h : Ty W Γ te (dt K (.list (xs.map f)))) : TyI W Γ (iList K te) (xs.map fun x => dt K (f x)) := by
  have z := tyi_lstD h
  rw [List.map_map] at z
  exact z
/-- zip of two tuples of data, of one length -/
theorem tyi_zipA {β γ : Type} {as : List β} {bs : List γ} {f : β → PyData} {h : γ → PyData} {tb : TE} (ha : Ty W Γ te (dt K (.tuple (as.map f)))) (hb : Ty W Γ tb (dt K (.tuple (bs.map h)))) :
    TyI W Γ (RZ.iZipA K (tCons te (tCons tb tNil))) ((as.zip bs).map fun p => tupT K [dt K (f p.1), dt K (h p.2)]) := by
  have z := tyi_zipT (W := W) (Γ := Γ) (K := K) (Ts := (as.map f).map (dt K)) (Us := (bs.map h).map (dt K)) (tya_cons (ha.sub fun _ _ _ => data_tupT) (tya_cons (hb.sub fun _ _ _ => data_tupT) tya_nil))
  have e : ((((as.map f).map (dt K)).zip ((bs.map h).map (dt K))).map fun p => tupT K [p.1, p.2]) = ((as.zip bs).map fun p => tupT K [dt K (f p.1), dt K (h p.2)]) := by
    rw [List.map_map, List.map_map, List.zip_map, List.map_map]
    rfl
  rw [e] at z
  exact z
/-- for a, b in ..: two slots -/
theorem tyg_pair {i k : Nat} : TyG W Γ (gTup K 2 (gCons (gName i) (gCons (gName k) gNil))) (tupT K [A, C]) ((Γ.set i (some A)).set k (some C)) := tyg_tup (tygs_cons (tyg_name i) (tygs_cons (tyg_name k) tygs_nil))
theorem gok_pair {i k : Nat} (hi : i ∈ vs) (hk : k ∈ vs) : GOk (gTup K 2 (gCons (gName i) (gCons (gName k) gNil))) vs := gok_tup (gok_cons (gok_name i hi) (gok_cons (gok_name k hk) gok_nil))
/-- range(n) -/
theorem tyi_rng {n : Nat} (h : TyA W Γ ta [dt K (.int (n : Nat))]) (hn : n ≤ 1000000000) : TyI W Γ (iRng1 ta) ((List.range n).map fun i => dt K (.int (i : Nat))) := by
  have z := tyi_rng1 h (by omega) (by omega)
  rw [Int.toNat_natCast] at z
  exact z
end
end Ew

end
section
set_option Elab.async false
set_option linter.all false
set_option maxRecDepth 100000
set_option maxHeartbeats 2000000
/-! EwX: an own exception class over a class whose __init__ says super().__init__(given); self.given = given. -/
namespace PySem
namespace WrX
open PySem.W PySem.Calls PyProof.Rows PySem.HandSPX
/-! ### the text of __init__ -/
def iA (p1 p2 p3 : Pos) : Arguments := { posonlyargs := [], args := [{ arg := "self", annotation := none, pos := p1 }, { arg := "given", annotation := none, pos := p2 }], vararg := none, kwonlyargs := [], kw_defaults := [], kwarg := none, defaults := [.Constant .none 0 p3] }
def iB (q1 q2 q3 q4 q5 q6 q7 q8 q9 q10 : Pos) : List Stmt := [.Expr (.Call (.Attribute (.Call (.Name "super" q1) [] [] q2) "__init__" q3) [.Name "given" q4] [] q5) q6, .Assign [.Attribute (.Name "self" q7) "given" q8] (.Name "given" q9) q10]
def iS : Scope := { kind := .function, names := [(PySem.Str.ofString "self", .local), (PySem.Str.ofString "given", .local), (PySem.Str.ofString "__class__", .free), (PySem.Str.ofString "super", .globalImplicit)], isGenerator := false, isCoroutine := false, more := [] }
abbrev veTail : List Value := [.type "ValueError", .type "Exception", .type "BaseException", .type "object"]
/-- what the written part says of the class D of the text, its __init__ at fI -/
structure BaseTxt (prog : Program) (K : Frag) (mg : Str → Option Value) (D fI : Addr) : Prop where
  fn : ∃ (oc : Value) (od : Option Addr) (Td : Addr) (kV doc pm : Value) (an : Option Addr) (cda cc : Addr) (ct : Value) (osl : Array (Option Value)) (p1 p2 p3 q1 q2 q3 q4 q5 q6 q7 q8 q9 q10 : Pos) (ccl cl : Value) (cdd cld : Option Addr) (vs : Array Value) (ccs csl : Array (Option Value)) (file : Str) (tf : Tok) (tc : Value) (td : Option Addr) (nT : Nat) (tsl : Array (Option Value)),
    K.lookup fI = some ⟨oc, od, .func (ksFn "__init__" "WrapError.__init__" (iA p1 p2 p3) (iB q1 q2 q3 q4 q5 q6 q7 q8 q9 q10) iS (.ref Td) kV doc pm an (.ref cda) ct cc), osl⟩ ∧ codeIn K (.ref cda) "WrapError.__init__" = true ∧
    K.lookup cda = some ⟨ccl, cdd, .fields vs, ccs⟩ ∧ vs[2]? = some (.str file tf) ∧ ((prog.main.file : Str) == file) = true ∧ K.lookup cc = some ⟨cl, cld, .cell (some (.ref D)), csl⟩ ∧ K.lookup Td = some ⟨tc, td, .seq #[.none] nT, tsl⟩ ∧ (q3.endLine == q5.line) = true
  cD : ∃ cdD, clsIn K D = some cdD
  mS : mg "super" = none
  top : (prog.main.scope.names.lookup ("super" : Str)).isSome = false
  any : nsIn K cStatics "thirdparty.any" = some none
/-- .. of a class C over it, without an __init__ of its own -/
structure ClsTxt (K : Frag) (mg : Str → Option Value) (nm : Str) (D fI C : Addr) : Prop where
  gC : mg nm = some (.ref C)
  cls : ∃ nm q N bs sn sub ab col dd k0 k1 k2 k3 k5, K.lookup C = some (excClassObj nm q C N bs (.ref D :: veTail) true sn sub ab col dd k0 k1 k2 k3 k5 "ValueError.__new__")
  sa : findIn K (.ref C) "__setattr__" = some (some (.builtin "object.__setattr__"))
  noN : findIn K (.ref C) "given" = some none
  iC : findIn K (.ref C) "__init__" = some (some (.ref fI))
  tI : typeIn K (.ref fI) = some (.type "function")
  kC : keepIn K (.ref C) = true
  exC : subIn K (.ref C) (.type "BaseException") = some true
  veC : subIn K (.ref C) (.type "ValueError") = some true
  tyC : typeIn K (.ref C) = some (.type "type")
  ne : C ≠ D
theorem one_size (v : Value) : [v].length ≤ sizeLine := by
  rw [sizeLine_eq]
  exact (by decide : 1 ≤ 16777216)
theorem refs (D : Addr) : refsVE (.ref D :: veTail) = true := by
  show refsVE veTail = true
  decide +kernel
theorem refs_two (C D : Addr) : refsVE (.ref C :: .ref D :: veTail) = true := by
  show refsVE veTail = true
  decide +kernel
theorem mro_has {K : Frag} {C D : Addr} {cd : ClassData} (hcd : clsIn K C = some cd) (hm : cd.mro = .ref C :: .ref D :: veTail) : mroIn K C (.ref D) = some true := by
  unfold mroIn
  rw [hcd, Option.bind_some, hm, if_neg (show ¬ (List.isEmpty (Value.ref C :: Value.ref D :: veTail) = true) from Bool.false_ne_true)]
  simp
theorem drop_to {C D : Addr} (h : C ≠ D) (l : List Value) : ((Value.ref C :: Value.ref D :: l).dropWhile (· != .ref D)).drop 1 = l := by
  have e : (Value.ref C != Value.ref D) = true := by simp [h]
  rw [List.dropWhile_cons, if_pos e, List.dropWhile_cons, if_neg (by simp)]
  rfl
theorem along_ve (K : Frag) : alongIn K "__init__" veTail = some (some (.builtin "ValueError.__init__")) := by kernel_rfl
section
variable {prog : Program} {w : World} {A : Around} {E : Value → Shared → Prop} {R : Result → Shared → Prop} {s : Shared} {K : Frag} {mg mb : Str → Option Value} {C D fI : Addr}
/-- the bound ValueError.__init__ is called -/
theorem call_mw {h : Heap} {g : Array GenState} {d : Drawn} {t : Nat} {os : OsState} {nm q : Str} {N : Addr} {bs bm : List Value} {hdct : Bool} {sn : List Str} {sub : List Value} {ab : Bool} {col : Option Bool} {dd : Option Addr} {k0 k1 k2 k3 k5 : Option Value} {u e t0 : Addr} {rest : List Value} {Q : Value → Shared → Prop}
    (hC : h.get? C = some (excClassObj nm q C N bs bm hdct sn sub ab col dd k0 k1 k2 k3 k5 "ValueError.__new__")) (he : h.get? e = some (excO C t0)) (hu : h.get? u = some (kxs_mw "ValueError.__init__" e)) (hrest : rest.length ≤ sizeLine)
    (hq : ∀ h' t1, (∀ b o, b ≠ e → h.get? b = some o → h'.get? b = some o) → h'.get? e = some (excO C t1) → Q .none ⟨h', g, d, t, os⟩) :
    wpAny (model prog w) A (call (.ref u) rest) Q E ⟨h, g, d, t, os⟩ := by
  refine wpAny_call (codeAny_of_tree ?_)
  show wpAny _ A.in1 (callAny (.ref u) ⟨rest, []⟩) _ _ _
  simp only [callAny]
  refine wpAny_bind (wpAny_load hu ?_)
  simp only [kxs_mw, show (Value.type "method-wrapper" == Value.type "method" || Value.type "method-wrapper" == Value.type "builtin_function_or_method" || Value.type "method-wrapper" == Value.type "method-wrapper") = true by decide, if_true]
  refine KFB.if_so (by decide) ?_
  refine wpAny_bind (check_bound_init F.excBase_ValueError.toExcCallFacts hC he rfl ?_)
  refine wpAny_bind (wpAny_pure (wpAny_pure ?_))
  refine ⟨plainId_quiet F.excBase_ValueError.init.plain _, codeAny_builtin F.excBase_ValueError.initEntry ?_⟩
  rw [Around.under_plainId F.excBase_ValueError.init.plain _]
  exact exc_init_tree (cls := .ref C) (t0 := t0) (dv := none) (c2 := .none) (c3 := .none) (b4 := .bool false) he hrest fun h' k hx _ => hq h' _ k hx
theorem callWith_mw {pos : Pos} {u x : Addr} {env : Env} {e : Expr} {rest : List Expr} {Q : Value → Shared → Prop}
    (h : wpAny (model prog w) A (spliced (backTo pos (starEach (e :: rest) env))) (fun vs s₁ => KxsAt "ValueError.__init__" u x s₁.heap ∧ wpAny (model prog w) A (call (.ref u) vs) Q E s₁) E s)
    (he : starEach (e :: rest) env = (false, eval e env) :: starEach rest env := by rfl) (hplain : (backTo pos (starEach rest env)).any (·.1) = false := by rfl) :
    wpAny (model prog w) A (callWith pos (.ref u) [] (backTo pos (starEach (e :: rest) env)) []) Q E s := by
  rw [he] at h ⊢
  refine kxs_callWith (i := "ValueError.__init__") (x := x) (by show (false || (backTo pos (starEach rest env)).any (·.1)) = false; rw [hplain]; rfl) ?_
  exact evalArgs_plain h
/-- what __init__ leaves of a fresh exception at x -/
structure InitEnd (h h' : Heap) (x C dx t1 : Addr) (v : Value) : Prop where
  keep : ∀ b o, b ≠ x → h.get? b = some o → h'.get? b = some o
  obj : h'.get? x = some { cls := .ref C, dict := some dx, data := .fields #[.ref t1, .none, .none, .none, .bool false, .none] }
  dbig : h.objs.size ≤ dx
  dne : dx ≠ x
  ns : h'.Ns1 dx (fun y => if y = "given" then some v else none)
/-- a made one -/
structure OwnMade (h h' : Heap) (e C d : Addr) (v : Value) : Prop where
  keep : ∀ b o, h.get? b = some o → h'.get? b = some o
  new : h.objs.size ≤ e
  obj : ∃ oe vs, h'.get? e = some oe ∧ oe.cls = .ref C ∧ oe.dict = some d ∧ oe.data = .fields vs ∧ vs[1]? = some .none
  dbig : h.objs.size ≤ d
  dne : d ≠ e
  ns : h'.Ns1 d (fun y => if y = "given" then some v else none)
theorem boot_super : bootBuiltins "super" = some (.type "super") := by first | rfl | kernel_rfl
theorem ksLd {M : Model} {name : Str} {scope : Scope} {L a cc : Addr} {cd : Value} {m : Str → Option Value} {x : Str} {pos : Pos} {v : Value} {Q : Value → Shared → Prop} (hn : s.heap.Ns L m) (hv : m x = some v) (h : Q v s)
    (hk : scope.kind = .function := by rfl) (hl : (ksEnv name scope L a cd cc).kindOf x = some .local := by rfl) (hd : (x == ("__debug__" : Str)) = false := by decide) :
    wpAny M A (eval (.Name x pos) (ksEnv name scope L a cd cc)) Q E s := wpAny_Name (wpAny_loadName_local hk hl hn hv h) hd
theorem kept_but {h h' : Heap} {x : Addr} (X : K.In h) (hx : K.lookup x = none) (k : ∀ b o, b ≠ x → h.get? b = some o → h'.get? b = some o) : K.In h' := fun a o e =>
  k a o (fun z => by rw [z, hx] at e; cases e) (X a o e)
theorem he_line {o : Expr} {name : Str} {apos pos p4 : Pos} {x : Str} {env : Env} (hl : (apos.endLine == pos.line) = true) :
    eval (.Call (.Attribute o name apos) [.Name x p4] [] pos) env = (do
      let ov ← attributeBase o name env (eval o env)
      standAt apos.atName
      let (f, first) ← holding [ov] (getMethod ov name (L2.plainOf o env))
      callWith pos f first (backTo pos (starEach [.Name x p4] env)) []) := by
  have e : eval (.Call (.Attribute o name apos) [.Name x p4] [] pos) env = (do
    let ov ← attributeBase o name env (eval o env)
    standAt apos.atName
    methodCall o name apos pos env ov (List.length [Expr.Name x p4] + List.length ([] : List Keyword)) (backTo pos (starEach [.Name x p4] env)) (backToKw pos (keywordEach [] env))) := rfl
  rw [e]
  congr 1
  funext ov
  congr 1
  funext u
  exact L2.mcall_line rfl hl
theorem we_init {nm : Str} (Bt : BaseTxt prog K mg D fI) (T : ClsTxt K mg nm D fI C) {x t0 : Addr} {v : Value} (X : K.In s.heap) (hlim : s.heap.NoLimit) (G : s.heap.Ns mainGlobals mg) (GB : ∃ mb, s.heap.Ns builtinsNs mb ∧ ∀ x : Str, x ≠ "__name__" → mb x = bootBuiltins x)
    (hx : s.heap.get? x = some (excO C t0)) (hnx : K.lookup x = none) (hroom : A.depth < recursionLimit)
    (hq : ∀ h' tk dx t1, InitEnd s.heap h' x C dx t1 v → R (.ok (.ret .none)) { s with heap := h', toks := tk }) :
    codeAny (model prog w) A (.call (.ref fI) ⟨[.ref x, v], []⟩) R s := by
  obtain ⟨oc, od, Td, kV, doc, pm, an, cda, cc, ct, osl, p1, p2, p3, q1, q2, q3, q4, q5, q6, q7, q8, q9, q10, ccl, cl, cdd, cld, vs, ccs, csl, file, tf, tc, td, nT, tsl, ho, hcd, hcode, hvs, hfile, hcell, hT, hline⟩ := Bt.fn
  obtain ⟨nm', q, N, bs, sn, sub, ab, col, dd, k0, k1, k2, k3, k5, hC⟩ := T.cls
  have hcl : clsIn K C = some { name := nm', bases := bs, mro := .ref C :: .ref D :: veTail, ns := N, qualname := q, hasDict := true, slotNames := sn, subclasses := sub, abstract := ab, collection := col, hasDel := false } := by unfold clsIn; rw [hC] <;> rfl
  obtain ⟨cdD, hD⟩ := Bt.cD
  obtain ⟨mb, hbn, hbm⟩ := GB
  obtain ⟨hp, g, d, t, os⟩ := s
  have hxC : x ≠ C := fun z => by rw [z, hC] at hnx; cases hnx
  refine ks_codeAny_call_defAt (fd := ksFn "__init__" "WrapError.__init__" (iA p1 p2 p3) (iB q1 q2 q3 q4 q5 q6 q7 q8 q9 q10) iS (.ref Td) kV doc pm an (.ref cda) ct cc) (body := iB q1 q2 q3 q4 q5 q6 q7 q8 q9 q10) (binds := [("self", .ref x), ("given", v)])
    hroom (X _ _ ho) rfl hlim (codeRec_of X hcd) rfl (L2.BindsTo.of_looks fun M => ?bind) ?cell ?loc (fun h₁ hns₁ k₁ => ?_) rfl rfl rfl
  case bind =>
    refine L2.looks_items (α := List (Str × Value)) X hT rfl (Looks.of_pure ?_)
    rfl
  case cell =>
    intro y hy
    rcases List.mem_cons.mp hy with rfl | hy
    · exact fun z => by cases z
    rcases List.mem_cons.mp hy with rfl | hy
    · exact fun z => by cases z
    rcases List.mem_cons.mp hy with rfl | hy
    · exact fun z => by cases z
    rcases List.mem_cons.mp hy with rfl | hy
    · exact fun z => by cases z
    cases hy
  case loc =>
    intro y hy
    rcases List.mem_cons.mp hy with rfl | hy
    · rfl
    rcases List.mem_cons.mp hy with rfl | hy
    · rfl
    cases hy
  have X₁ : K.In h₁ := X.keeps k₁
  have hx₁ := k₁ _ _ hx
  have hxL : hp.objs.size ≠ x := Nat.ne_of_gt (Heap.lt_size hx)
  obtain ⟨oD, hD1, hD2⟩ : ∃ oD, h₁.get? D = some oD ∧ oD.data = .cls cdD := by
    unfold clsIn at hD
    split at hD
    · rename_i c d cd' sl ho
      cases hD
      exact ⟨_, X₁ _ _ ho, rfl⟩
    · cases hD
  show _root_.PySem.wpAt (model prog w) _ (.func (iB q1 q2 q3 q4 q5 q6 q7 q8 q9 q10) (ksEnv "WrapError.__init__" iS hp.objs.size fI (.ref cda) cc)) (execs (iB q1 q2 q3 q4 q5 q6 q7 q8 q9 q10) (ksEnv "WrapError.__init__" iS hp.objs.size fI (.ref cda) cc)) _ _ _
  refine ks_wpAt_execs_cons ?_
  refine ks_wpAt_Expr_any ?_
  refine ks_wpAt_MethodCall (pl := L2.plainOf (.Call (.Name "super" q1) [] [] q2) (ksEnv "WrapError.__init__" iS hp.objs.size fI (.ref cda) cc)) ?_ (he_line hline)
  refine (ks_wpAt_super_base (env := ksEnv "WrapError.__init__" iS hp.objs.size fI (.ref cda) cc) rfl rfl (by decide) rfl (X₁ _ _ ho) rfl rfl rfl (X₁ _ _ hcode) rfl hvs hfile Bt.top ?_)
  refine ks_loadName_global rfl rfl (loadGlobal_builtin (env := ksEnv "WrapError.__init__" iS hp.objs.size fI (.ref cda) cc) (G.keeps k₁) Bt.mS (hbn.keeps k₁) ((hbm _ (by decide)).trans boot_super) ⟨rfl, ?_⟩)
  refine wpAny_loadName_free rfl rfl rfl ⟨_, X₁ _ _ hcell, rfl⟩ ?_
  refine wpAny_loadName_local (v := .ref x) rfl rfl hns₁ rfl ?_
  refine ks_wpAny_isType_cls hD1 hD2 ⟨rfl, ?_⟩
  refine ks_wpAny_call_super hD1 hD2 hx₁ rfl (fun c e => by cases e) (looks_mroIn X₁ (mro_has hcl rfl)) (fun h₂ hso k₂ => ?_)
  have X₂ : K.In h₂ := X₁.keeps k₂
  have hx₂ := k₂ _ _ hx₁
  have I₂ : InstAt h₂ x (excO C t0) C none := ⟨hx₂, rfl, rfl, trivial⟩
  refine kxs_getMethod kxs_ValueError hso (looks_opaque X₂ Bt.any) (l₀ := .ref C :: .ref D :: veTail) (fun A Q E s k q => wpAny_bind ((looks_clsIn X₂ hcl) A _ E s k (wpAny_pure q))) (drop_to T.ne _) X₂ (along_ve K) (I₂.type.andThen (looks_subIn X₂ T.veC)) hxC (by decide) ?_
  have k₃ : ∀ b o, h₂.get? b = some o → (h₂.push (kxs_mw "ValueError.__init__" x)).get? b = some o := fun b o e => Heap.get?_push_of_some _ e
  have hu : (h₂.push (kxs_mw "ValueError.__init__" x)).get? h₂.objs.size = some (kxs_mw "ValueError.__init__" x) := Heap.get?_push_at rfl rfl
  have hns₃ := (hns₁.keeps k₂).keeps k₃
  refine callWith_mw (u := h₂.objs.size) (x := x) ?_
  refine spliced_more ?_
  refine ksLd (v := v) hns₃ rfl ?_
  refine spliced_none ⟨hu, ?_⟩
  have k03 : ∀ b o, hp.get? b = some o → (h₂.push (kxs_mw "ValueError.__init__" x)).get? b = some o := fun b o e => k₃ b o (k₂ b o (k₁ b o e))
  refine call_mw (e := x) (k03 _ _ (X _ _ hC)) (k03 _ _ hx) hu (one_size v) (fun h₄ t1 k₄ hx₄ => ?_)
  have k04 : ∀ b o, b ≠ x → hp.get? b = some o → h₄.get? b = some o := fun b o hb e => k₄ b o hb (k03 b o e)
  have X₄ : K.In h₄ := kept_but X hnx k04
  have hns₄ : h₄.Ns hp.objs.size (fun y => List.lookup y [(PySem.Str.ofString "self", Value.ref x), (PySem.Str.ofString "given", v)].reverse) := by
    obtain ⟨oL, es, ep, hL, r⟩ := hns₃
    exact ⟨oL, es, ep, k₄ _ _ hxL hL, r⟩
  -- self.given = given
  refine ks_wpAt_execs_cons (_root_.PySem.wpAt_of_wpAny (plainObj_wpAny_Assign_Attribute ?_))
  refine ksLd (v := v) hns₄ rfl (ksLd (v := .ref x) hns₄ rfl ?_)
  refine set_plain X₄ (ox := excO C t1) (od := none) ⟨hx₄, rfl, rfl, trivial⟩ T.sa ?_
  refine exc_osa X₄ hx₄ hcl (refs_two C D) rfl T.noN (fun h₅ tk₅ dx k₅ dn dne hx₅ hn₅ => ?_)
  refine _root_.PySem.wpAt_of_wpAny (wpAny_execs_nil (hq h₅ tk₅ dx t1 ⟨fun b o hb e => k₅ b o hb (k04 b o hb e), hx₅, Nat.le_trans ?_ dn, dne, hn₅⟩))
  obtain ⟨oL, es, ep, hL, r⟩ := hns₄
  exact Nat.le_of_lt (Heap.lt_size hL)
theorem we_made {nm : Str} (Bt : BaseTxt prog K mg D fI) (T : ClsTxt K mg nm D fI C) {v : Value} (X : K.In s.heap) (hlim : s.heap.NoLimit) (G : s.heap.Ns mainGlobals mg) (GB : ∃ mb, s.heap.Ns builtinsNs mb ∧ ∀ x : Str, x ≠ "__name__" → mb x = bootBuiltins x) (hroom : A.depth + 1 < recursionLimit)
    (hq : ∀ h' tk e d, OwnMade s.heap h' e C d v → R (.ok (.ret (.ref e))) { s with heap := h', toks := tk }) :
    codeAny (model prog w) A (.call (.ref C) ⟨[v], []⟩) R s := by
  obtain ⟨nm', q, N, bs, sn, sub, ab, col, dd, k0, k1, k2, k3, k5, hC⟩ := T.cls
  obtain ⟨hp, g, dr, tk, os⟩ := s
  have k : ∀ b o, hp.get? b = some o → ((hp.push (kdv_tup [v])).push (excO C hp.objs.size)).get? b = some o := fun b o e => Heap.get?_push_of_some _ (Heap.get?_push_of_some _ e)
  have hget : ((hp.push (kdv_tup [v])).push (excO C hp.objs.size)).get? (hp.objs.size + 1) = some (excO C hp.objs.size) := by heap_get
  have hnx : K.lookup (hp.objs.size + 1) = none := by
    cases e : K.lookup (hp.objs.size + 1) with
    | none => rfl
    | some o =>
      have z : hp.get? (hp.objs.size + 1) = some o := X _ _ e
      exact absurd (Nat.lt_of_succ_lt (Heap.lt_size z)) (Nat.lt_irrefl _)
  refine call_own F.excBase_ValueError (fun X => refsVE_contains X _ (refs D)) (X _ _ hC) (looks_findIn X T.iC) (fun self => bind_fn X self T.tI) (one_size v) ?_
  obtain ⟨mb, hb1, hb2⟩ := GB
  refine we_init (s := ⟨(hp.push (kdv_tup [v])).push (excO C hp.objs.size), g, dr, tk, os⟩) Bt T (X.keeps k) (hlim.keeps k) (G.keeps k) ⟨mb, hb1.keeps k, hb2⟩ hget hnx ?_ fun h' tk' dx t1 ⟨k', hx, dn, dne, hns⟩ => ?_
  · show A.depth + 1 < recursionLimit
    exact hroom
  · have old : ∀ b o, hp.get? b = some o → h'.get? b = some o := fun b o e => k' b o (Nat.ne_of_lt (Nat.lt_succ_of_lt (Heap.lt_size e))) (k b o e)
    have z : hp.objs.size + 1 + 1 ≤ dx := by
      first
        | (simpa only [Heap.size_push] using dn)
        | exact dn
        | (have q := dn; rw [Heap.size_push, Heap.size_push] at q; exact q)
    exact ⟨rfl, hq h' tk' (hp.objs.size + 1) dx ⟨old, Nat.le_succ _, ⟨_, _, hx, rfl, rfl, rfl, rfl⟩, Nat.le_trans (Nat.le_trans (Nat.le_succ _) (Nat.le_succ _)) z, dne, hns⟩⟩
end
end WrX
end PySem
namespace L2
open PySem PySem.Spec PyProof.Rows
theorem relO_giv {v : V} {v' : Value} (r : RelV v v') (f : Str) : RelO (List.lookup f [(("given" : Str), v)]) (if f = "given" then some v' else none) := by
  by_cases hw : f = "given"
  · subst hw
    rw [if_pos rfl]
    have q : List.lookup ("given" : Str) [(("given" : Str), v)] = some v := by simp [List.lookup]
    rw [q]
    exact r
  · rw [if_neg hw]
    have qw : (f == ("given" : Str)) = false := by simpa using hw
    have q2 : List.lookup f [(("given" : Str), v)] = none := by simp [List.lookup, qw]
    rw [q2]
    trivial
section
variable {X : Cx} {D C fI : Addr} {nm : Str}
/-- C(e) -/
def tMkW (C : Addr) (ta : TA) : St → Hp → XK → Prop := fun σ H Q => ta σ H fun vs H1 => ∃ v, vs = [v] ∧ ∀ d, H1 d = none → Q (.ref C) (some d) (upd H1 d (.xd [(("given" : Str), v)]))
theorem pmk_wr {a : Expr} {ta : TA} {p pos : Pos} {k : Nat} (Bt : PySem.WrX.BaseTxt X.prog X.K X.mg D fI) (T : PySem.WrX.ClsTxt X.K X.mg nm D fI C) (hr : Room k X.A) (ha : PA X [a] ta) (hg : Gl X nm := by rfl) (hdb : (nm == ("__debug__" : Str)) = false := by decide)
    (he : starEach (a :: []) X.env = (false, eval a X.env) :: starEach [] X.env := by rfl) (hpl : (backTo pos (starEach [] X.env)).any (·.1) = false := by rfl) :
    PMk X (.Call (.Name nm p) [a] [] pos) (tMkW C ta) := by
  intro pins s σ H Q I h
  refine wpAny_Call_Name_kw (ld_glob I hg T.gC ?_ hdb)
  refine PySem.W.callWith_K (h₀ := X.base) I.ok.mod.kin T.kC (thn (ha.run pos pins s σ H _ I h) fun us s1 hh => ?_) he hpl
  obtain ⟨vs, H1, I1, r1, v, ev, q1⟩ := hh
  subst ev
  refine ⟨I1.kIn, ?_⟩
  cases r1 with
  | cons rv rn =>
    rename_i v' us'
    cases rn
    show wpAny _ _ (call (.ref C) [v']) _ _ _
    have hlim := I1.nolimit
    obtain ⟨mb, hb1, hb2⟩ := I1.mod.blt
    have hG := I1.mod.glob.keeps I1.bk
    have hB := hb1.keeps I1.bk
    have hK := I1.kIn
    obtain ⟨hp, g, dr, tk, os⟩ := s1
    refine wpAny_call (PySem.WrX.we_made Bt T hK hlim hG ⟨mb, hB, hb2⟩ (by have := hr.dp; omega) fun h' tk' e d M => ?_)
    show MkP X pins σ Q (.ref e) ⟨h', g, dr, tk', os⟩
    obtain ⟨oe, fv, hoe, hc, hd, hdat, h1⟩ := M.obj
    have hns := M.ns
    obtain ⟨G', g1, g2⟩ := restrict h' fun b => decide (b ≠ e)
    have gk : ∀ b, b ≠ e → G'.get? b = h'.get? b := fun b hb => g1 b (decide_eq_true hb)
    have ge : G'.get? e = none := g2 e (by simp)
    have old : ∀ b o, hp.get? b = some o → G'.get? b = some o := fun b o q => (gk b (Nat.ne_of_lt (Nat.lt_of_lt_of_le (Heap.lt_size q) M.new))).trans (M.keep b o q)
    have ob : ObjOk X.prog X.w (upd H1 d (.xd [(("given" : Str), v)])) G' d (.xd [(("given" : Str), v)]) :=
      ⟨_, hns.at (fun o q => (gk d M.dne).trans q), fun f => relO_giv rv f⟩
    have J : Inv X pins σ (upd H1 d (.xd [(("given" : Str), v)])) ⟨G', g, dr, tk', os⟩ := I1.laid (t' := tk') old M.dbig ob
    refine ⟨e, oe, fv, ⟨G', g, dr, tk', os⟩, _, .ref C, some d, rfl, J, fun b o q => ?_, ge, hoe, ⟨hc, hd⟩, hdat, h1, ?_, rfl, I1.bare, raises_own T.exC T.tyC, q1 d (I1.hok.fresh M.dbig)⟩
    · by_cases hb : b = e
      · have q' : G'.get? b = some o := q
        rw [hb, ge] at q'; cases q'
      · exact (gk b hb).symm.trans q
    · rw [upd_ne (Ne.symm M.dne)]
      exact I1.hok.fresh M.new
/-- raise C(e) -/
def tRaiseW (C : Addr) (W : WX) (ta : TA) : TS := fun _ σ H => tMkW C ta σ H fun cls d H' => W cls d σ H'
theorem ps_raiseW {a : Expr} {ta : TA} {W : WX} {p pos pos2 : Pos} {k : Nat} (hc : X.calm = true) (Bt : PySem.WrX.BaseTxt X.prog X.K X.mg D fI) (T : PySem.WrX.ClsTxt X.K X.mg nm D fI C) (hr : Room k X.A) (tk : Takes X W) (ha : PA X [a] ta) (hg : Gl X nm := by rfl) (hdb : (nm == ("__debug__" : Str)) = false := by decide)
    (he : starEach (a :: []) X.env = (false, eval a X.env) :: starEach [] X.env := by rfl) (hpl : (backTo pos (starEach [] X.env)).any (·.1) = false := by rfl) :
    PS X (.Raise (some (.Call (.Name nm p) [a] [] pos)) none pos2) (tRaiseW C W ta) := ps_raise hc tk (pmk_wr Bt T hr ha hg hdb he hpl)
end
end L2

end
section
set_option Elab.async false
set_option linter.all false
set_option maxRecDepth 100000
set_option maxHeartbeats 2000000
/-! EwY: several except clauses with names; defs that raise, by types; calls with keywords only. -/
namespace L2
open PySem PySem.Spec PyProof.Rows
abbrev Hdl := Value × Nat × (Addr → Value → Option Addr → TS)
def wManyA (K : PySem.W.Frag) (Wout : WX) (D : Ends) : List Hdl → WX
  | [] => Wout
  | (c, i, ts) :: r => fun cls d σ H => ∃ b, PySem.W.exmOne K cls c = some b ∧
    (b = true → ∀ a, H a = none → ts a cls d { nx := fun σ' H' => D.nx (σ'.set i none) H', rt := D.rt, bk := fun σ' H' => D.bk (σ'.set i none) H', ct := fun σ' H' => D.ct (σ'.set i none) H' } (σ.set i (some (.ref a))) H) ∧ (b = false → wManyA K Wout D r cls d σ H)
inductive HdsA (X : Cx) : List ExceptHandler → List Hdl → Prop
  | nil : HdsA X [] []
  | cons {x n : Str} {c : Value} {i : Nat} {ts : Addr → Value → Option Addr → TS} {b₀ : Stmt} {suite : List Stmt} {np pos' : Pos} {hds : List ExceptHandler} {l : List Hdl} (hi : X.N[i]? = some n) (hln : X.env.kindOf n = some .local) (hc : Names X x c)
      (hsu : ∀ (a : Addr) (oe : Obj) (cls : Value) (d : Option Addr) (pn : List (Addr × Obj)), Zc cls d oe → (∃ vs, oe.data = .fields vs) → PSs (X.suite a ((a, oe) :: pn)) (b₀ :: suite) (ts a cls d)) (r : HdsA X hds l) :
      HdsA X (.ExceptHandler (some (.Name x np)) (some n) (b₀ :: suite) pos' :: hds) ((c, i, ts) :: l)
/-- try .. except ..: tb the body -/
def tTry (K : PySem.W.Frag) (Wout : WX) (l : List Hdl) (tb : WX → TS) : TS := fun D σ H => tb (wManyA K Wout D l) D σ H
section
variable {X : Cx} {body : List Stmt} {h₀ : ExceptHandler} {hds : List ExceptHandler} {l : List Hdl} {pos : Pos} {tb : WX → TS} {Wout : WX}
theorem ps_try_manyA (hs : X.stack = X.env :: X.outer) (hf : X.env.frame = some X.env.locals) (hN : X.N.Nodup) (tk : Takes X Wout)
    (hb : ∀ (W : WX) (pn : List (Addr × Obj)) (xe : Value → Shared → Prop), Takes (X.tr pn xe) W → PassesOwn (model X.prog X.w) X.A X.env xe → PSs (X.tr pn xe) body (tb W))
    (hh : HdsA X (h₀ :: hds) l) : PS X (.Try body (h₀ :: hds) [] [] pos) (tTry X.K Wout l tb) := by
  refine ⟨fun pins s σ H D I h => ?_⟩
  have ok := I.ok
  have hfr : X.A.frames = some (X.env :: X.outer) := by rw [ok.frames, hs]
  refine wpAny_Try_except ?_
  refine wpAny_mono ((hb (wManyA X.K Wout D l) (X.pn ++ pins) (fun e s₁ => wpAny (model X.prog X.w) X.A (noteFrame e X.env) (fun _ s₂ => wpAny (model X.prog X.w) X.A (setFlight e none) (fun _ s₃ =>
    wpAny (model X.prog X.w) X.A (handleBy e X.env (h₀ :: hds)) (SP X pins D) X.xe s₃) X.xe s₂) X.xe s₁) (fun u s' xx => ?_) PassesOwn.looking).run [] s σ H D (I.toTry _) h) (fun f s1 hsp => ?_) (fun e s1 he => he)
  · -- the catch
    obtain ⟨a, B, sI, pins', σ', H', cls, d, rfl, J', nb, up, sky, na, os, ag, w⟩ := xx
    have J : Inv X pins σ' H' sI := J'.ofTry ok
    have sky' : Sky B (X.env :: X.outer) a (Zc cls d) X.env.locals s'.heap := by rw [← hs]; exact sky
    show wpAny (model X.prog X.w) X.A (noteFrame (.ref a) X.env) _ _ _
    refine Sky.land Zc.steady hfr hf sky' fun h3 fl3 up3 => ?_
    have J3 : Inv X pins σ' H' { s' with heap := h3 } := J.landed nb fl3.1 (up.trans up3) os ag
    obtain ⟨oe3, vs3, he3, hz3, hd3⟩ := fl3.there
    have notFr : ∀ {h : Heap} {o : Obj} {vs : Array Value}, h.FunFrames B (X.env :: X.outer) → h.get? a = some o → o.data = .fields vs → a ∉ frs (X.env :: X.outer) := fun {h o vs} ff e dd hm => by
      obtain ⟨_, o', e', hnf⟩ := ff.mem hm
      rw [e] at e'; cases e'
      exact hnf _ dd
    have nfr := notFr fl3.2.2.1 he3 hd3
    have nL : a ≠ X.env.locals := fun z => nfr (List.mem_filterMap.mpr ⟨X.env, List.mem_cons_self, by rw [hf, z]⟩)
    have nF : a ∉ X.fs := fun hm => by
      obtain ⟨e, he, q⟩ := List.mem_filterMap.mp hm
      exact nfr (List.mem_filterMap.mpr ⟨e, List.mem_cons_of_mem _ he, q⟩)
    have S3 := J3.suite he3 hd3 na nL nF
    have go : ∀ {hds' : List ExceptHandler} {l' : List Hdl}, HdsA X hds' l' → wManyA X.K Wout D l' cls d σ' H' →
        wpAny (model X.prog X.w) X.A (handleBy (.ref a) X.env hds') (SP X pins D) X.xe { s' with heap := h3 } := by
      intro hds' l' hk
      induction hk with
      | nil =>
        intro w
        refine wpAny_handleBy_nil ?_
        obtain ⟨k1, k2, k3, oe, vs, T, oT, ts', he, hz, hd, h1, hr⟩ := id fl3
        unfold PySem.passOn
        refine wpAny_bind (wpAny_field he hd h1 ?_)
        rw [if_neg (show ¬ ((Value.ref T == Value.none) = true) from by simp)]
        have fin : wpAny (model X.prog X.w) X.A (setFlight (.ref a) X.env.frame) (fun _ s4 => wpAny (model X.prog X.w) X.A (throw (.ref a) : Sem Flow) (SP X pins D) X.xe s4) X.xe { s' with heap := h3 } := by
          rw [hf]
          refine HandSPX.setFlight_upZ fl3 fun h4 hh4 up4 => wpAny_throw (tk _ _ ?_)
          exact ⟨a, B, sI, pins, σ', H', cls, d, rfl, J, nb, (up.trans up3).trans up4, .inr (.inr (by rw [hs]; exact hh4)), na, os, ag, w⟩
        first
          | exact wpAny_bind (wpAny_pure (wpAny_bind fin))
          | exact wpAny_bind fin
      | @cons x n c i ts b₀ suite np pos' hds2 l2 hi hln hc hsu r ih =>
        intro w
        have hloc : Loc X.env.scope n := .inl hln
        obtain ⟨b, hb1, hyes, hno⟩ := w
        refine wpAny_handleBy_cons (codeAny_handlers_test ?_) (by intro q; cases q)
        have LT : PySem.W.Looks (model X.prog X.w) h3 (typeOf (.ref a)) cls := fun A Q E s k q => wpAny_typeOf_ref (k _ _ he3) (by rw [hz3.1]; exact q)
        have LM := PySem.W.exm_one (M := model X.prog X.w) (J3.kIn) LT hb1
        have test : ∀ {Q : Value → Shared → Prop} {E : Value → Shared → Prop}, Q c { s' with heap := h3 } → wpAny (model X.prog X.w) (X.A.mark (some (.ref a))) (eval (.Name x np) X.env) Q E { s' with heap := h3 } := fun {Q E} q => by
          obtain ⟨hg, hdbg, hm | ⟨hm, hv, hnn⟩⟩ := hc
          · exact ld_glob (X := X.suite a ((a, oe3) :: (X.pn ++ pins))) S3 hg hm q hdbg
          · exact ld_blt (X := X.suite a ((a, oe3) :: (X.pn ++ pins))) S3 hg hm hv q hnn hdbg
        refine test (LM.here ?_)
        cases b with
        | true =>
          refine codeAny_handlers_suite_as ?_
          refine HandSPX.lands_againZ fl3 fun h4 fl4 up4 => ?_
          have J4 : Inv X pins σ' H' { s' with heap := h4 } := J.landed nb fl4.1 ((up.trans up3).trans up4) os ag
          obtain ⟨oe4, vs4, he4, hz4, hd4⟩ := fl4.there
          have S4 := J4.suite he4 hd4 na nL nF
          refine store_ok (X := X.suite a ((a, oe4) :: (X.pn ++ pins))) (v := .ref a) S4 hN hi hloc rfl (fun s5 S5 => ?_) (.inr hln)
          refine wpAny_mono ((hsu a oe4 cls d (X.pn ++ pins) hz4 ⟨_, hd4⟩).run [] s5 _ H' _ S5 (hyes rfl a na)) (fun f s6 hsp => ?_) (fun _ _ z => False.elim z)
          have end_ : ∀ {σ6 : St} {H6 : Hp} {Q : Shared → Prop}, Inv (X.suite a ((a, oe4) :: (X.pn ++ pins))) [] σ6 H6 s6 → (∀ s7, Inv X pins (σ6.set i none) H6 s7 → Q s7) →
              wpAny (model X.prog X.w) X.A (do bindName X.env n .none; unbindBehindTheSuite X.env n pos') (fun _ s7 => Q s7) X.xe s6 := fun {σ6 H6 Q} S6 hq => gone_ok (S6.unsuite ok) hN hi hln hq
          cases f with
          | next =>
            obtain ⟨σ6, H6, S6, q6⟩ := hsp
            exact end_ S6 fun s7 J7 => ⟨_, _, J7, q6⟩
          | brk =>
            obtain ⟨σ6, H6, S6, q6⟩ := hsp
            exact end_ S6 fun s7 J7 => ⟨_, _, J7, q6⟩
          | cont =>
            obtain ⟨σ6, H6, S6, q6⟩ := hsp
            exact end_ S6 fun s7 J7 => ⟨_, _, J7, q6⟩
          | ret u =>
            obtain ⟨v6, σ6, H6, S6, r6, q6⟩ := hsp
            exact end_ S6 fun s7 J7 => ⟨_, _, _, J7, r6, q6⟩
        | false =>
          show wpAny _ X.A (handleBy (.ref a) X.env hds2) _ _ _
          exact ih (hno rfl)
    exact go hh w
  · cases f with
    | next =>
      obtain ⟨σ', H', J', q⟩ := hsp
      exact wpAny_execs_nil ⟨σ', H', J'.ofTry ok, q⟩
    | brk =>
      obtain ⟨σ', H', J', q⟩ := hsp
      exact ⟨σ', H', J'.ofTry ok, q⟩
    | cont =>
      obtain ⟨σ', H', J', q⟩ := hsp
      exact ⟨σ', H', J'.ofTry ok, q⟩
    | ret u =>
      obtain ⟨v, σ', H', J', r, q⟩ := hsp
      exact ⟨v, σ', H', J'.ofTry ok, r, q⟩
theorem k_try {K : PySem.W.Frag} (hK : X.K = K) (hs : X.stack = X.env :: X.outer) (hf : X.env.frame = some X.env.locals) (hN : X.N.Nodup) (tk : Takes X Wout)
    (hb : ∀ (W : WX) (pn : List (Addr × Obj)) (xe : Value → Shared → Prop), Takes (X.tr pn xe) W → PassesOwn (model X.prog X.w) X.A X.env xe → PSs (X.tr pn xe) body (tb W))
    (hh : HdsA X (h₀ :: hds) l) : PS X (.Try body (h₀ :: hds) [] [] pos) (tTry K Wout l tb) := hK ▸ ps_try_manyA hs hf hN tk hb hh
end
/-! ### calls with keywords only -/
structure KB (K : PySem.W.Frag) (fd : FuncData) (ps ks : List Str) (g : List Value → List Value) (gV : List V → List V) : Prop where
  to : ∀ (s : Shared) (ws : List Value), K.In s.heap → (g ws).length = ps.length → BindsTo s fd ⟨[], ks.zip ws⟩ (ps.zip (g ws))
  rel : ∀ {zs : List V} {ws : List Value}, Vals zs ws → Vals (gV zs) (g ws)
def tCallKS (sp : Sp) (gV : List V → List V) (E : St → XK) (tk : TA) : TE := fun σ H Q => tk σ H fun zs H1 => sp (gV zs) H1 Q (E σ)
section
variable {X : Cx} {CX : CXT} {k : Nat} {f : Addr} {fd : FuncData} {ps ks : List Str} {sp : Sp} {E : St → XK} {x : Str} {p pos : Pos} {kws : List Keyword} {tk : TA} {g : List Value → List Value} {gV : List V → List V}
theorem pe_callKS (F : FnOk X.prog X.w X.K X.mg X.base CX k f fd ps sp) (hr : Room k X.A) (hg : Gl X x) (hm : X.mg x = some (.ref f)) (hk : PySem.W.keepIn X.K (.ref f) = true) (hb : KB X.K fd ps ks g gV) (hx : ∀ σ, PassesAt CX X σ (E σ))
    (hkw : PK X kws tk) (hall : (backToKw pos (keywordEach kws X.env)).all (·.1.isSome) = true := by rfl) (hks : (backToKw pos (keywordEach kws X.env)).filterMap (·.1) = ks := by rfl)
    (hdb : (x == ("__debug__" : Str)) = false := by decide) (hpl : ((backTo pos (starEach [] X.env)).any (·.1) || (backToKw pos (keywordEach kws X.env)).any (·.1.isNone)) = false := by rfl) :
    PE X (.Call (.Name x p) [] kws pos) (tCallKS sp gV E tk) := by
  refine ⟨fun pins s σ H Q I h => ?_⟩
  refine wpAny_Call_Name_kw (ld_glob I hg hm ?_ hdb)
  refine PySem.W.callWith_KW0 (h₀ := X.base) I.ok.mod.kin hk hall (thn (hkw.run pos pins s σ H _ I h) fun ws s2 ⟨zs, H2, I2, rz, q2⟩ => ⟨I2.kIn, ?_⟩) hpl
  rw [hks]
  show wpAny _ _ (call (.ref f) [] (ks.zip ws)) _ _ _
  have r2 := hb.rel rz
  have hl : (g ws).length = ps.length := by rw [← r2.length]; exact F.len _ _ _ _ q2
  refine wpAny_call (codeAny_mono (F.run X.A X.stack s2 H2 ⟨[], ks.zip ws⟩ (g ws) (gV zs) Q (E σ) hr I2.env0 (hb.to s2 ws I2.kIn hl) r2 q2) fun r s' hq => ?_)
  cases r with
  | error e => exact hx σ pins H2 s2 e s' I2 hq
  | ok fl =>
    cases fl with
    | ret u => exact I2.after hq
    | next => exact False.elim hq
    | brk => exact False.elim hq
    | cont => exact False.elim hq
end
section
variable {K : PySem.W.Frag} {x qual : Str} {st : Stmt} {f : Addr} {fd : FuncData} {ps ks : List Str}
/-- every parameter by its keyword, in order -/
theorem Fun.kb (F : Fun K x qual st f fd)
    (h : ∀ (kV doc pm : Value) (an : Option Addr) (cdv ct : Value) (us : List Value), us.length = ps.length → bindArgs (PySem.W.fnOf x qual (defArgs st) (defBody st) (defScope st) .none kV doc pm an cdv ct) ⟨[], ks.zip us⟩ = pure (ps.zip us)) : KB K fd ps ks id id := by
  obtain ⟨oc, od, kV, doc, pm, an, cdv, ct, osl, rfl, lk, hcd⟩ := F.ex
  exact ⟨fun s ws _ hl => .of_eq (h kV doc pm an cdv ct ws hl), fun r => r⟩
theorem vals_rev : ∀ {vs : List V} {us : List Value}, Vals vs us → Vals vs.reverse us.reverse
  | _, _, .nil => .nil
  | _, _, .cons r rs => by
    rw [List.reverse_cons, List.reverse_cons]
    exact (vals_rev rs).append (.cons r .nil)
/-- .. in the order turned -/
theorem Fun.kbR (F : Fun K x qual st f fd)
    (h : ∀ (kV doc pm : Value) (an : Option Addr) (cdv ct : Value) (us : List Value), us.length = ps.length → bindArgs (PySem.W.fnOf x qual (defArgs st) (defBody st) (defScope st) .none kV doc pm an cdv ct) ⟨[], ks.zip us⟩ = pure (ps.zip us.reverse)) : KB K fd ps ks List.reverse List.reverse := by
  obtain ⟨oc, od, kV, doc, pm, an, cdv, ct, osl, rfl, lk, hcd⟩ := F.ex
  exact ⟨fun s ws _ hl => .of_eq (h kV doc pm an cdv ct ws (by rw [List.length_reverse] at hl; exact hl)), fun r => vals_rev r⟩
end
end L2
namespace Ew
open PySem PySem.Spec PyProof.Rows L2
/-! ### errors by types -/
/-- an error at the dict dd holds a value of the type T -/
def Held (W : Wd) (T : Typ) (dd : Addr) (H : Hp) : Prop := ∃ v, H dd = some (.xd [(("given" : Str), v)]) ∧ T.at W v H
/-- as spT; where bad x tells a class and a type, an error of it instead -/
def spE {α : Type} (C : α → Prop) (A : α → List Typ) (R : α → Typ) (bad : α → Option (Addr × Typ)) : Sp := fun vs H Q E => ∃ (M B : Addr → Prop) (x : α), (∀ a, B a → M a) ∧ (∀ a, B a → BoxAt H a) ∧ (∀ a, M a → H a ≠ none) ∧ C x ∧ TysV M B (A x) vs H ∧
  (bad x = none → ∀ v H', Ex B H H' → (R x).p M B v H' → Q v H') ∧ (∀ c T, bad x = some (c, T) → ∀ dd v H', Ex B H H' → T.p M B v H' → H' dd = some (.xd [(("given" : Str), v)]) → E (.ref c) (some dd) H')
/-- an own error's class -/
def erT (dd a : Addr) (T : Typ) : Typ := ⟨fun M B v H => v = .ref a ∧ ∃ u, H dd = some (.xd [(("given" : Str), u)]) ∧ T.p M B u H, fun e ⟨h, u, h1, h2⟩ => ⟨h, u, e.keepT h1 (fun _ z => nomatch z), T.up e h2⟩, fun n ⟨h, u, h1, h2⟩ => ⟨h, u, h1, T.weak n h2⟩, fun ⟨h, u, h1, h2⟩ => ⟨h, u, h1, T.drop h2⟩⟩
section
variable {W : Wd} {Γ : Gam} {tl : TA} {te : TE} {T U : Typ} {α : Type} {C : α → Prop} {A : α → List Typ} {R : α → Typ} {bad : α → Option (Addr × Typ)} {Wx : WX} {N : Sx → Hp → Prop} {Rr : V → Hp → Prop} {Bk Ct : Sx → Hp → Prop} {c : Addr} {φ : Prop}
/-- what is wished of an error of the class c that holds a value of the type T -/
def ErK (W : Wd) (Γ : Gam) (Wx : WX) (c : Addr) (T : Typ) : Prop := ∀ dd σ H, nE W Γ σ H → Held W T dd H → Wx (.ref c) (some dd) σ H
theorem ty_callE (x : α) (hC : C x) (h : TyA W Γ tl (A x)) (hb : ∀ c T, bad x = some (c, T) → ErK W Γ Wx c T) : Ty W Γ (tCallS (spE C A R bad) (WE Wx) tl) (gd (bad x = none) (R x)) := fun σ H c g Q q =>
  h σ H c g _ fun vs H1 e1 hv => ⟨W.M, W.B, x, W.sub, (c.up e1).box, (c.up e1).al, hC, hv, fun k v H2 e2 h2 => q v H2 (e1.trans e2) ⟨k, h2⟩,
    fun cc T k dd v H' e2 h2 h3 => hb cc T k dd σ H' ⟨c.up (e1.trans e2), g.up (e1.trans e2).toW⟩ ⟨v, h3, h2⟩⟩
/-- .. where nothing is let out -/
theorem ty_callE0 {E : XK} (x : α) (hC : C x) (h : TyA W Γ tl (A x)) (hb : bad x = none) : Ty W Γ (tCall (spE C A R bad) [] E tl) (R x) := fun σ H c g Q q =>
  h σ H c g _ fun vs H1 e1 hv => ⟨W.M, W.B, x, W.sub, (c.up e1).box, (c.up e1).al, hC, by rw [List.append_nil]; exact hv, fun k v H2 e2 h2 => q v H2 (e1.trans e2) h2,
    fun cc T k => by rw [hb] at k; cases k⟩
theorem ty_callKE {gV : List V → List V} {Us : List Typ} (x : α) (hC : C x) (h : TyA W Γ tl Us) (hg : ∀ {vs H}, TysV W.M W.B Us vs H → TysV W.M W.B (A x) (gV vs) H) (hb : ∀ c T, bad x = some (c, T) → ErK W Γ Wx c T) :
    Ty W Γ (tCallKS (spE C A R bad) gV (WE Wx) tl) (gd (bad x = none) (R x)) := fun σ H c g Q q =>
  h σ H c g _ fun vs H1 e1 hv => ⟨W.M, W.B, x, W.sub, (c.up e1).box, (c.up e1).al, hC, hg hv, fun k v H2 e2 h2 => q v H2 (e1.trans e2) ⟨k, h2⟩,
    fun cc T k dd v H' e2 h2 h3 => hb cc T k dd σ H' ⟨c.up (e1.trans e2), g.up (e1.trans e2).toW⟩ ⟨v, h3, h2⟩⟩
theorem ty_callKE0 {gV : List V → List V} {Us : List Typ} (x : α) (hC : C x) (h : TyA W Γ tl Us) (hg : ∀ {vs H}, TysV W.M W.B Us vs H → TysV W.M W.B (A x) (gV vs) H) (hb : bad x = none) :
    Ty W Γ (tCallKS (spE C A R bad) gV (fun _ => E0) tl) (R x) := fun σ H c g Q q =>
  h σ H c g _ fun vs H1 e1 hv => ⟨W.M, W.B, x, W.sub, (c.up e1).box, (c.up e1).al, hC, hg hv, fun k v H2 e2 h2 => q v H2 (e1.trans e2) h2,
    fun cc T k => by rw [hb] at k; cases k⟩
theorem ty_callK0 {gV : List V → List V} {Us : List Typ} (x : α) (hC : C x) (h : TyA W Γ tl Us) (hg : ∀ {vs H}, TysV W.M W.B Us vs H → TysV W.M W.B (A x) (gV vs) H) :
    Ty W Γ (tCallKS (spT C A R) gV (fun _ => E0) tl) (R x) := fun σ H c g Q q =>
  h σ H c g _ fun vs H1 e1 hv => ⟨W.M, W.B, x, W.sub, (c.up e1).box, (c.up e1).al, hC, hg hv, fun v H2 e2 h2 => q v H2 (e1.trans e2) h2⟩
theorem tysv_id {vs : List V} {H : Hp} {Ts : List Typ} (h : TysV W.M W.B Ts vs H) : TysV W.M W.B Ts (id vs) H := h
theorem tysv_rev2 {vs : List V} {H : Hp} (h : TysV W.M W.B [T, U] vs H) : TysV W.M W.B [U, T] vs.reverse H := by
  match vs, h with
  | [a, b], h => exact ⟨h.2.1, h.1, True.intro⟩
theorem Ty.gd (h : Ty W Γ te (gd φ T)) : Ty W Γ te T := h.sub fun _ _ _ z => z.2
/-- a call as a statement: behind it φ holds -/
theorem tys_dropG (h : Ty W Γ te (Ew.gd φ T)) : TyS W Γ (tDrop te) (fun σ H => φ ∧ nE W Γ σ H) Rr Bk Ct := fun σ H c g D dn _ _ _ => h σ H c g _ fun v H1 e z => dn σ H1 e.toW ⟨z.1, c.up e, g.up e.toW⟩
theorem tys_seqG {ts tw : TS} (h1 : TyS W Γ ts (fun σ H => φ ∧ nE W Γ σ H) Rr Bk Ct) (h2 : φ → TyS W Γ tw N Rr Bk Ct) : TyS W Γ (tSeq ts tw) N Rr Bk Ct := tys_seq h1 fun σ H ⟨f, n⟩ => ⟨W, Γ, Wd.Like.refl W, n, h2 f⟩
theorem tys_raise (h : Ty W Γ te T) (k : ErK W Γ Wx c T) : TyS W Γ (tRaiseW c Wx (tCons te tNil)) noN Rr Bk Ct := fun σ H cx g D _ _ _ _ =>
  h σ H cx g _ fun v H1 e hv => ⟨v, rfl, fun d hd => k d σ _ ⟨cx.up (e.trans (Ex.new hd)), g.up (e.trans (Ex.new hd)).toW⟩ ⟨v, upd_same, T.up (Ex.new (B := W.B) hd).toW hv⟩⟩
/-- err.given in a suite -/
theorem ty_given {a dd : Addr} {cls : Value} {d : Option Addr} (hc : cls = .ref c) (hd : d = some dd) (h : Ty W Γ te (erT dd a T)) : Ty W Γ (tXf a cls d c "given" te) T := fun σ H cx g Q q =>
  h σ H cx g _ fun v H1 e ⟨e1, u, h1, h2⟩ => ⟨e1, hc, dd, _, u, hd, h1, by simp [List.lookup], q u H1 e h2⟩
/-- try: the errors that its body lets out -/
theorem tys_try {K : PySem.W.Frag} {Wout : WX} {l : List Hdl} {tb : WX → TS} {Er : Value → Option Addr → Sx → Hp → Prop} (hb : ∀ Wx : WX, (∀ c d σ H, Er c d σ H → Wx c d σ H) → TyS W Γ (tb Wx) N Rr Bk Ct)
    (hh : ∀ D : Ends, (∀ v H', Rr v H' → D.rt v H') → ∀ c d σ H, Er c d σ H → wManyA K Wout D l c d σ H) : TyS W Γ (tTry K Wout l tb) N Rr Bk Ct := fun σ H c g D dn dr db dc =>
  hb (wManyA K Wout D l) (hh D dr) σ H c g D dn dr db dc
/-- the first clause takes it -/
theorem hdl_hit {K : PySem.W.Frag} {Wout : WX} {l : List Hdl} {D : Ends} {i : Nat} {ts : Addr → Value → Option Addr → TS} {dd : Addr} {σ : Sx} {H : Hp} {cc : Value} (hc : PySem.W.exmOne K (.ref c) cc = some true) (n : nE W Γ σ H) (hd : Held W T dd H)
    (dr : ∀ v H', Rr v H' → D.rt v H') (hs : ∀ a, TyS W (Γ.set i (some (erT dd a T))) (ts a (.ref c) (some dd)) noN Rr noN noN) : wManyA K Wout D ((cc, i, ts) :: l) (.ref c) (some dd) σ H :=
  ⟨true, hc, fun _ a ha => by
    obtain ⟨u, h1, h2⟩ := hd
    exact hs a _ H n.1 (EnvL.set (T := erT dd a T) ⟨rfl, u, h1, h2⟩ n.2) _ (fun _ _ _ z => z.elim) dr (fun _ _ _ z => z.elim) (fun _ _ _ z => z.elim), fun z => Bool.noConfusion z⟩
theorem hdl_miss {K : PySem.W.Frag} {Wout : WX} {l : List Hdl} {D : Ends} {i : Nat} {ts : Addr → Value → Option Addr → TS} {d : Option Addr} {σ : Sx} {H : Hp} {cc cls : Value} (hc : PySem.W.exmOne K cls cc = some false) (h : wManyA K Wout D l cls d σ H) :
    wManyA K Wout D ((cc, i, ts) :: l) cls d σ H := ⟨false, hc, fun z => Bool.noConfusion z, fun _ => h⟩
end
section
variable {P : Program} {w : World} {K : PySem.W.Frag} {mg : Str → Option Value} {base : Heap}
/-- a def that may raise, by its typed body -/
theorem fn_tyE {x qual : Str} {st : Stmt} {f : Addr} {fd : FuncData} {N ps : List Str} {k : Nat} {α : Type} {C : α → Prop} {A : α → List Typ} {R : α → Typ} {bad : α → Option (Addr × Typ)} (F : Fun K x qual st f fd) (S : FnScope N ps (defScope st))
    (len : ∀ x, C x → (A x).length = ps.length)
    (hbody : ∀ (cdv : Value) (Ar : Around) (outer : List Env) (s : Shared) (H : Hp) (E : XK), Room k (Ar.deeper (envOfC qual (defScope st) s.heap.objs.size f cdv)) →
      ∃ t, PSs (cxOf (L2.CX P w) P w K mg base N qual (defScope st) f cdv Ar outer s H E) (defBody st) t ∧ ∀ (W : Wd) (x : α), C x → (∀ Γ c T, bad x = some (c, T) → ErK W Γ (fun cls d _ H => E cls d H) c T) →
        TyS W ((A x).map some ++ List.replicate (N.length - ps.length) none) t (fun _ H' => bad x = none ∧ rW W (R x) .non H') (fun v H => bad x = none ∧ rW W (R x) v H) noN noN) :
    FnOk P w K mg base (L2.CX P w) (k + 1) f fd ps (spE C A R bad) := by
  refine F.okX S (fun vs H Q E h => ?_) fun cdv Ar outer s H vs Q E hr h => ?_
  · obtain ⟨M, B, x, _, _, _, hC, h, _⟩ := h
    rw [h.length, len x hC]
  · obtain ⟨M, B, x, hs, hb, ha, hC, h, q, qe⟩ := h
    obtain ⟨t, ht, k⟩ := hbody cdv Ar outer s H E hr
    refine ⟨t, ht, k (Wd.base M B H hs) x hC (fun Γ c T hb dd σ H' n hl => ?_) (L2.start N vs) H ⟨hb, ha, Ex.refl B H, True.intro⟩ ?_ _ (fun σ' H' _ n => q n.1 _ _ n.2.1 n.2.2) (fun v H' n => q n.1 _ _ n.2.1 n.2.2) (fun _ _ _ z => z.elim) (fun _ _ _ z => z.elim)⟩
    · obtain ⟨v, h1, h2⟩ := hl
      exact qe c T hb dd v H' n.1.ex h2 h1
    · unfold L2.start
      have e : vs.length = ps.length := by rw [h.length, len x hC]
      rw [e]
      exact env_start h _
theorem tys_retE {W : Wd} {Γ : Gam} {te : TE} {T : Typ} {φ : Prop} {Bk Ct : Sx → Hp → Prop} (hφ : φ) (h : Ty W Γ te T) : TyS W Γ (tRet te) noN (fun v H => φ ∧ rW W T v H) Bk Ct := tys_ret h fun v H c k => ⟨hφ, c.ex, k⟩
theorem tys_retG {W : Wd} {Γ : Gam} {te : TE} {T : Typ} {φ : Prop} {Bk Ct : Sx → Hp → Prop} (h : Ty W Γ te (gd φ T)) : TyS W Γ (tRet te) noN (fun v H => φ ∧ rW W T v H) Bk Ct := tys_ret h fun v H c k => ⟨k.1, c.ex, k.2⟩
end
end Ew

end
section
set_option Elab.async false
set_option linter.all false
set_option maxRecDepth 100000
set_option maxHeartbeats 2000000
/-! EwZ: zip of a list with a tuple (turned from the worked proofs for two lists and for two tuples). -/
namespace RZ
open PySem
open PySem.Sem (wp)
section
variable {prog : Program} {w : World} {A : Around} {E : Value → Shared → Prop} {s : Shared}
theorem zipLT_next_item {z TI TO i1 i2 l1 l2 : Addr} {k1 k2 : Nat} {xs ys : Array Value} {x y a b : Value} {Q : Value → Shared → Prop} (D : ZipApart z TI TO i1 i2 l1 l2)
    (hz : IsZip s.heap z TI TO .none) (hTI : IsPair s.heap TI (.ref i1) (.ref i2)) (hTO : IsPair s.heap TO a b)
    (h1 : s.heap.IsListIter i1 l1 k1) (h2 : s.heap.IsTupleIter i2 l2 k2) (hl1 : s.heap.IsList l1 xs) (hl2 : s.heap.IsTuple l2 ys) (hx : xs[k1]? = some x) (hy : ys[k2]? = some y)
    (hQ : ∀ h', IsZip h' z TI TO (rawInt s.heap.objs.size) → IsPair h' TO x y → h'.IsListIter i1 l1 (k1 + 1) → h'.IsTupleIter i2 l2 (k2 + 1) → IsPair h' s.heap.objs.size x y → h'.objs.size = s.heap.objs.size + 1 →
      (∀ c o, c ≠ z → c ≠ TO → c ≠ i1 → c ≠ i2 → s.heap.get? c = some o → h'.get? c = some o) → Q (.ref s.heap.objs.size) { s with heap := h' }) :
    wpAny (model prog w) A (Builtin.«zip.__next__» ⟨[.ref z], []⟩) (fun fin s' => ∃ v, fin = .done (.ret v) ∧ Q v s') E s := by
  show wpAny _ _ (field (.ref z) 2 >>= _) _ _ _
  refine wpAny_bind (wpAny_field hz rfl (x := .bool false) rfl ?_)
  show wpAny _ _ (field (.ref z) 3 >>= _) _ _ _
  refine wpAny_bind (wpAny_field hz rfl (x := .ref TI) rfl ?_)
  refine wpAny_bind (wpAny_seqItems hTI rfl ?_)
  show wpAny _ _ (Builtin.SmallTypes.ownedTupleIsFree (.ref z) >>= _) _ _ _
  refine wpAny_bind ?_
  unfold Builtin.SmallTypes.ownedTupleIsFree
  refine wpAny_bind (wpAny_field hz rfl (x := .none) rfl (wpAny_pure ?_))
  simp only [if_true]
  refine wpAny_bind (wpAny_rule ?_)
  refine wpAny_bind (wpAny_field hz rfl (x := .ref TO) rfl ?_)
  refine wpAny_bind (wpAny_setField_rec hz (by simp) fun h₁ hz₁ hs₁ => ?_)
  replace hz₁ : IsZip h₁ z TI TO .ellipsis := hz₁
  refine wpAny_bind ?_
  simp only [List.zipIdx_cons, List.zipIdx_nil, List.forIn_cons, List.forIn_nil]

  refine wpAny_bind (wpAny_bind (wpAny_onRaise ?_))
  show wpAny _ _ (Builtin.SmallTypes.nextOf (.ref i1) >>= _) _ _ _
  refine wpAny_bind (wpAny_nextOf_list_item (h1.extBut hs₁.extBut D.i1z) (hl1.extBut hs₁.extBut D.l1z) hx fun h₂ h1₂ hs₂ => wpAny_pure ?_)
  have hTO₂ : IsPair h₂ TO a b := hs₂.extBut _ _ D.TOi1 (hs₁.extBut _ _ D.TOz hTO)
  refine wpAny_bind (wpAny_seqItems hTO₂ rfl ?_)
  refine wpAny_bind (wpAny_updateSeq_pair hTO₂ fun h₃ hTO₃ hs₃ => ?_)
  replace hTO₃ : IsPair h₃ TO x b := hTO₃
  refine wpAny_bind (wpAny_letGo (wpAny_pure ?_))

  refine wpAny_bind (wpAny_bind (wpAny_onRaise ?_))
  show wpAny _ _ (Builtin.SmallTypes.nextOf (.ref i2) >>= _) _ _ _
  refine wpAny_bind (nextOf_tuple_item (((h2.extBut hs₁.extBut D.i2z).extBut hs₂.extBut D.i12.symm).extBut hs₃.extBut D.TOi2.symm)
    (((hl2.extBut hs₁.extBut D.l2z).extBut hs₂.extBut D.l2i1).extBut hs₃.extBut D.l2TO) hy fun h₄ h2₄ hs₄ => wpAny_pure ?_)
  have hTO₄ : IsPair h₄ TO x b := hs₄.extBut _ _ D.TOi2 hTO₃
  refine wpAny_bind (wpAny_seqItems hTO₄ rfl ?_)
  refine wpAny_bind (wpAny_updateSeq_pair hTO₄ fun h₅ hTO₅ hs₅ => ?_)
  replace hTO₅ : IsPair h₅ TO x y := hTO₅
  refine wpAny_bind (wpAny_letGo (wpAny_pure (wpAny_pure ?_)))

  refine wpAny_bind (wpAny_seqItems hTO₅ rfl ?_)
  refine wpAny_bind (wpAny_newTuple ?_)
  have hsz : h₅.objs.size = s.heap.objs.size := by rw [hs₅.1, hs₄.1, hs₃.1, hs₂.1, hs₁.1]
  have hz₅ : IsZip h₅ z TI TO .ellipsis := hs₅.extBut _ _ D.TOz.symm (hs₄.extBut _ _ D.i2z.symm (hs₃.extBut _ _ D.TOz.symm (hs₂.extBut _ _ D.i1z.symm hz₁)))
  have hk₅ : ∀ c o, c ≠ z → c ≠ TO → c ≠ i1 → c ≠ i2 → s.heap.get? c = some o → h₅.get? c = some o := fun c o c1 c2 c3 c4 e =>
    hs₅.extBut _ _ c2 (hs₄.extBut _ _ c4 (hs₃.extBut _ _ c2 (hs₂.extBut _ _ c3 (hs₁.extBut _ _ c1 e))))
  have h1₅ : h₅.IsListIter i1 l1 (k1 + 1) := ((h1₂.extBut hs₃.extBut D.TOi1.symm).extBut hs₄.extBut D.i12).extBut hs₅.extBut D.TOi1.symm
  have h2₅ : h₅.IsTupleIter i2 l2 (k2 + 1) := h2₄.extBut hs₅.extBut D.TOi2.symm
  have hzlt : z < h₅.objs.size := Heap.lt_size hz₅
  have hTOlt : TO < h₅.objs.size := Heap.lt_size hTO₅
  have hi1lt : i1 < h₅.objs.size := by obtain ⟨_, e, _⟩ := h1₅; exact Heap.lt_size e
  have hi2lt : i2 < h₅.objs.size := by obtain ⟨_, e, _⟩ := h2₅; exact Heap.lt_size e
  show wpAny _ _ (Builtin.SmallTypes.ownedTupleHandOut (.ref z) (.ref h₅.objs.size) >>= _) _ _ _
  refine wpAny_bind ?_
  unfold Builtin.SmallTypes.ownedTupleHandOut
  have hz₆ : IsZip (h₅.push { cls := .type "tuple", data := .seq #[x, y] }) z TI TO .ellipsis := Heap.get?_push_of_some _ hz₅
  refine wpAny_bind (wpAny_setField_rec hz₆ (by simp) fun h₇ hz₇ hs₇ => ?_)
  replace hz₇ : IsZip h₇ z TI TO (rawInt h₅.objs.size) := hz₇
  refine wpAny_setField_rec hz₇ (by simp) fun h₈ hz₈ hs₈ => ?_
  replace hz₈ : IsZip h₈ z TI TO (rawInt h₅.objs.size) := hz₈
  have up : ∀ c o, c ≠ z → h₅.get? c = some o → h₈.get? c = some o := fun c o c1 e => hs₈.extBut _ _ c1 (hs₇.extBut _ _ c1 (Heap.get?_push_of_some _ e))
  have hT₈ : IsPair h₈ h₅.objs.size x y := hs₈.extBut _ _ (Nat.ne_of_gt hzlt) (hs₇.extBut _ _ (Nat.ne_of_gt hzlt) (Heap.get?_push_size _ rfl))
  have hz8 : h₈.objs.size = h₅.objs.size + 1 := by rw [hs₈.1, hs₇.1, Heap.size_push]
  rw [hsz] at hz₈ hT₈ hz8
  refine wpAny_pure ⟨_, rfl, ?_⟩
  show Q (.ref h₅.objs.size) _
  rw [hsz]
  exact hQ h₈ hz₈ (up _ _ D.TOz hTO₅) (h1₅.at fun o e => up _ o D.i1z e) (h2₅.at fun o e => up _ o D.i2z e) hT₈ hz8 fun c o c1 c2 c3 c4 e => up c o c1 (hk₅ c o c1 c2 c3 c4 e)

theorem zipLT_next_end {z TI TO i1 i2 l1 l2 : Addr} {k1 k2 : Nat} {xs ys : Array Value} {a b : Value} {Q : Fin → Shared → Prop} (hh : A.handled = none) (D : ZipApart z TI TO i1 i2 l1 l2)
    (hz : IsZip s.heap z TI TO .none) (hTI : IsPair s.heap TI (.ref i1) (.ref i2)) (hTO : IsPair s.heap TO a b)
    (h1 : s.heap.IsListIter i1 l1 k1) (h2 : s.heap.IsTupleIter i2 l2 k2) (hl1 : s.heap.IsList l1 xs) (hl2 : s.heap.IsTuple l2 ys) (hend : xs[k1]? = none ∨ ys[k2]? = none)
    (hE : ∀ h' e, (∀ c o, c ≠ z → c ≠ TO → c ≠ i1 → c ≠ i2 → s.heap.get? c = some o → h'.get? c = some o) → (∃ o, h'.get? e = some o ∧ o.cls = .type "StopIteration") → E (.ref e) { s with heap := h' }) :
    wpAny (model prog w) A (Builtin.«zip.__next__» ⟨[.ref z], []⟩) Q E s := by
  show wpAny _ _ (field (.ref z) 2 >>= _) _ _ _
  refine wpAny_bind (wpAny_field hz rfl (x := .bool false) rfl ?_)
  show wpAny _ _ (field (.ref z) 3 >>= _) _ _ _
  refine wpAny_bind (wpAny_field hz rfl (x := .ref TI) rfl ?_)
  refine wpAny_bind (wpAny_seqItems hTI rfl ?_)
  show wpAny _ _ (Builtin.SmallTypes.ownedTupleIsFree (.ref z) >>= _) _ _ _
  refine wpAny_bind ?_
  unfold Builtin.SmallTypes.ownedTupleIsFree
  refine wpAny_bind (wpAny_field hz rfl (x := .none) rfl (wpAny_pure ?_))
  simp only [if_true]
  refine wpAny_bind (wpAny_rule ?_)
  refine wpAny_bind (wpAny_field hz rfl (x := .ref TO) rfl ?_)
  refine wpAny_bind (wpAny_setField_rec hz (by simp) fun h₁ hz₁ hs₁ => ?_)
  replace hz₁ : IsZip h₁ z TI TO .ellipsis := hz₁
  refine wpAny_bind ?_
  simp only [List.zipIdx_cons, List.zipIdx_nil, List.forIn_cons, List.forIn_nil]
  refine wpAny_bind (wpAny_bind (wpAny_onRaise ?_))
  show wpAny _ _ (Builtin.SmallTypes.nextOf (.ref i1) >>= _) _ _ _
  cases hx : xs[k1]? with
  | none =>
    refine wpAny_bind (wpAny_nextOf_list_end hh (h1.extBut hs₁.extBut D.i1z) (hl1.extBut hs₁.extBut D.l1z) hx fun h₂ e hs₂ he => ?_)
    obtain ⟨oe, hoe, hce⟩ := he
    have hz₂ : IsZip h₂ z TI TO .ellipsis := hs₂ _ _ D.i1z.symm hz₁
    have hez : e ≠ z := fun x => by subst x; rw [hz₂] at hoe; cases hoe; simp at hce
    refine wpAny_setField_rec hz₂ (by simp) fun h₃ _ hs₃ => hE h₃ e (fun c o c1 _ c3 _ x => hs₃.extBut _ _ c1 (hs₂ _ _ c3 (hs₁.extBut _ _ c1 x))) ⟨oe, hs₃.extBut _ _ hez hoe, hce⟩
  | some x =>
    have hy : ys[k2]? = none := by rcases hend with h | h; rw [hx] at h; cases h; exact h
    refine wpAny_bind (wpAny_nextOf_list_item (h1.extBut hs₁.extBut D.i1z) (hl1.extBut hs₁.extBut D.l1z) hx fun h₂ h1₂ hs₂ => wpAny_pure ?_)
    have hTO₂ : IsPair h₂ TO a b := hs₂.extBut _ _ D.TOi1 (hs₁.extBut _ _ D.TOz hTO)
    refine wpAny_bind (wpAny_seqItems hTO₂ rfl ?_)
    refine wpAny_bind (wpAny_updateSeq_pair hTO₂ fun h₃ hTO₃ hs₃ => ?_)
    refine wpAny_bind (wpAny_letGo (wpAny_pure ?_))
    refine wpAny_bind (wpAny_bind (wpAny_onRaise ?_))
    show wpAny _ _ (Builtin.SmallTypes.nextOf (.ref i2) >>= _) _ _ _
    refine wpAny_bind (nextOf_tuple_end hh (((h2.extBut hs₁.extBut D.i2z).extBut hs₂.extBut D.i12.symm).extBut hs₃.extBut D.TOi2.symm)
      (((hl2.extBut hs₁.extBut D.l2z).extBut hs₂.extBut D.l2i1).extBut hs₃.extBut D.l2TO) hy fun h₄ e hs₄ he => ?_)
    obtain ⟨oe, hoe, hce⟩ := he
    have hz₄ : IsZip h₄ z TI TO .ellipsis := hs₄ _ _ D.i2z.symm (hs₃.extBut _ _ D.TOz.symm (hs₂.extBut _ _ D.i1z.symm hz₁))
    have hez : e ≠ z := fun x => by subst x; rw [hz₄] at hoe; cases hoe; simp at hce
    refine wpAny_setField_rec hz₄ (by simp) fun h₅ _ hs₅ => hE h₅ e (fun c o c1 c2 c3 c4 x => hs₅.extBut _ _ c1 (hs₄ _ _ c4 (hs₃.extBut _ _ c2 (hs₂.extBut _ _ c3 (hs₁.extBut _ _ c1 x))))) ⟨oe, hs₅.extBut _ _ hez hoe, hce⟩

theorem pyNext_zipLT_item {z TI TO i1 i2 l1 l2 : Addr} {k1 k2 : Nat} {xs ys : Array Value} {x y a b : Value} {Q : Option Value → Shared → Prop} (D : ZipApart z TI TO i1 i2 l1 l2)
    (hz : IsZip s.heap z TI TO .none) (hTI : IsPair s.heap TI (.ref i1) (.ref i2)) (hTO : IsPair s.heap TO a b)
    (h1 : s.heap.IsListIter i1 l1 k1) (h2 : s.heap.IsTupleIter i2 l2 k2) (hl1 : s.heap.IsList l1 xs) (hl2 : s.heap.IsTuple l2 ys) (hx : xs[k1]? = some x) (hy : ys[k2]? = some y)
    (hQ : ∀ h', IsZip h' z TI TO (rawInt s.heap.objs.size) → IsPair h' TO x y → h'.IsListIter i1 l1 (k1 + 1) → h'.IsTupleIter i2 l2 (k2 + 1) → IsPair h' s.heap.objs.size x y → h'.objs.size = s.heap.objs.size + 1 →
      (∀ c o, c ≠ z → c ≠ TO → c ≠ i1 → c ≠ i2 → s.heap.get? c = some o → h'.get? c = some o) → Q (some (.ref s.heap.objs.size)) { s with heap := h' }) :
    wpAny (model prog w) A (pyNext (.ref z)) Q E s := by
  have hT : s.TypeIs (.ref z) "zip" := ⟨_, hz, rfl⟩
  unfold pyNext
  exact wpAny_bind (wpAny_attempt (wpAny_callSpecial?_slot (name := Str.ofString "__next__") hT F.slot_zip_next
    (wpAny_call_entry F.slot_zip_next hT F.entry_zip_next
      (zipLT_next_item D hz hTI hTO h1 h2 hl1 hl2 hx hy fun h' a1 a2 a3 a4 a5 a6 a7 => wpAny_pure (hQ h' a1 a2 a3 a4 a5 a6 a7)) (F.args_zip_next_1 _))))

theorem pyNext_zipLT_end {z TI TO i1 i2 l1 l2 : Addr} {k1 k2 : Nat} {xs ys : Array Value} {a b : Value} {Q : Option Value → Shared → Prop} (hh : A.handled = none) (D : ZipApart z TI TO i1 i2 l1 l2)
    (hz : IsZip s.heap z TI TO .none) (hTI : IsPair s.heap TI (.ref i1) (.ref i2)) (hTO : IsPair s.heap TO a b)
    (h1 : s.heap.IsListIter i1 l1 k1) (h2 : s.heap.IsTupleIter i2 l2 k2) (hl1 : s.heap.IsList l1 xs) (hl2 : s.heap.IsTuple l2 ys) (hend : xs[k1]? = none ∨ ys[k2]? = none)
    (hQ : ∀ h', (∀ c o, c ≠ z → c ≠ TO → c ≠ i1 → c ≠ i2 → s.heap.get? c = some o → h'.get? c = some o) → Q none { s with heap := h' }) : wpAny (model prog w) A (pyNext (.ref z)) Q E s := by
  have hT : s.TypeIs (.ref z) "zip" := ⟨_, hz, rfl⟩
  unfold pyNext
  refine wpAny_bind (wpAny_attempt (wpAny_callSpecial?_slot (name := Str.ofString "__next__") hT F.slot_zip_next
    (wpAny_call_entry F.slot_zip_next hT F.entry_zip_next (zipLT_next_end hh D hz hTI hTO h1 h2 hl1 hl2 hend fun h' e hk he => ?_) (F.args_zip_next_1 _))))
  obtain ⟨o, ho, hc⟩ := he
  refine wpAny_bind (wpAny_isInstance (T := "StopIteration") (b := true) ⟨o, ho, hc⟩ isSubtype_stop ?_)
  exact wpAny_pure (hQ _ hk)
end

abbrev zipLTH1 (h : Heap) (l1 : Addr) : Heap := h.push { cls := .type "list_iterator", data := .fields #[.ref l1, .int 0 0] }
abbrev zipLTH2 (h : Heap) (l1 l2 : Addr) : Heap := (zipLTH1 h l1).push { cls := .type "tuple_iterator", data := .fields #[.ref l2, .int 0 0] }
abbrev zipLTH3 (h : Heap) (l1 l2 : Addr) : Heap := (zipLTH2 h l1 l2).push { cls := .type "tuple", data := .seq #[.ref h.objs.size, .ref (zipLTH1 h l1).objs.size] }
abbrev zipLTH4 (h : Heap) (l1 l2 : Addr) : Heap := (zipLTH3 h l1 l2).push { cls := .type "tuple", data := .seq #[.none, .none] }
abbrev zipLTH5 (h : Heap) (l1 l2 : Addr) : Heap := (zipLTH4 h l1 l2).push { cls := .type "zip", data := .fields #[.none, .bool false, .bool false, .ref (zipLTH2 h l1 l2).objs.size, .ref (zipLTH3 h l1 l2).objs.size] }

theorem meets_zipLT_new (l1 l2 : Addr) (xs ys : Array Value) :
    Meets (Builtin.«zip.__new__» ⟨[.type "zip", .ref l1, .ref l2], []⟩) (fun _ R s => s.heap.IsList l1 xs ∧ s.heap.IsTuple l2 ys ∧
      R (.ok (.ret (.ref (zipLTH4 s.heap l1 l2).objs.size))) { s with heap := zipLTH5 s.heap l1 l2 }) :=
  .of_wp fun prog w A R s h => by
    obtain ⟨hp, g, d, tk, os⟩ := s; obtain ⟨hl1, hl2, h⟩ := h
    have hsub := sub_zip
    have hL1 : Heap.IsList (Shared.heap ⟨hp, g, d, tk, os⟩) l1 xs := hl1
    have hL2 : Heap.IsTuple (Shared.heap ⟨hp.push { cls := .type "list_iterator", data := .fields #[.ref l1, .int 0 0] }, g, d, tk, os⟩) l2 ys := Heap.IsTuple.push hl2 _
    wp_walk using wpAny_pyIter_list hL1, wpAny_pyIter_tuple hL2
    exact ⟨_, rfl, h⟩

section
variable {prog : Program} {w : World} {A : Around} {E : Value → Shared → Prop} {s : Shared}

theorem call_zipLT {l1 l2 : Addr} {xs ys : Array Value} {Q : Value → Shared → Prop} (hl1 : s.heap.IsList l1 xs) (hl2 : s.heap.IsTuple l2 ys)
    (h : ∀ h', IsZip h' (s.heap.objs.size + 4) (s.heap.objs.size + 2) (s.heap.objs.size + 3) .none → IsPair h' (s.heap.objs.size + 2) (.ref s.heap.objs.size) (.ref (s.heap.objs.size + 1)) →
      IsPair h' (s.heap.objs.size + 3) .none .none → h'.IsListIter s.heap.objs.size l1 0 → h'.IsTupleIter (s.heap.objs.size + 1) l2 0 → h'.objs.size = s.heap.objs.size + 5 →
      (∀ c o, s.heap.get? c = some o → h'.get? c = some o) → Q (.ref (s.heap.objs.size + 4)) { s with heap := h' }) :
    wpAny (model prog w) A (call (.type "zip") [.ref l1, .ref l2]) Q E s := by
  refine callType_new F.called_zip (by decide) (F.typeCall_zip_2 _ _) (F.newCall_zip_2 _ _) (fun obj => F.args_object_init_3 obj _ _) F.entry_zip_new
    (meets_zipLT_new l1 l2 xs ys) ⟨hl1, hl2, ?_⟩
  have z1 : (zipLTH1 s.heap l1).objs.size = s.heap.objs.size + 1 := Heap.size_push ..
  have z2 : (zipLTH2 s.heap l1 l2).objs.size = s.heap.objs.size + 2 := by rw [Heap.size_push, z1]
  have z3 : (zipLTH3 s.heap l1 l2).objs.size = s.heap.objs.size + 3 := by rw [Heap.size_push, z2]
  have z4 : (zipLTH4 s.heap l1 l2).objs.size = s.heap.objs.size + 4 := by rw [Heap.size_push, z3]
  have z5 : (zipLTH5 s.heap l1 l2).objs.size = s.heap.objs.size + 5 := by rw [Heap.size_push, z4]
  have g5 : (zipLTH5 s.heap l1 l2).get? (zipLTH4 s.heap l1 l2).objs.size = some _ := Heap.get?_push_size _ rfl
  have g4 : (zipLTH5 s.heap l1 l2).get? (zipLTH3 s.heap l1 l2).objs.size = some _ := Heap.get?_push_of_some _ (Heap.get?_push_size _ rfl)
  have g3 : (zipLTH5 s.heap l1 l2).get? (zipLTH2 s.heap l1 l2).objs.size = some _ := Heap.get?_push_of_some _ (Heap.get?_push_of_some _ (Heap.get?_push_size _ rfl))
  have g2 : (zipLTH5 s.heap l1 l2).get? (zipLTH1 s.heap l1).objs.size = some _ := Heap.get?_push_of_some _ (Heap.get?_push_of_some _ (Heap.get?_push_of_some _ (Heap.get?_push_size _ rfl)))
  have g1 : (zipLTH5 s.heap l1 l2).get? s.heap.objs.size = some _ := Heap.get?_push_of_some _ (Heap.get?_push_of_some _ (Heap.get?_push_of_some _ (Heap.get?_push_of_some _ (Heap.get?_push_size _ rfl))))
  show _ ∧ _
  rw [z2, z3, z4] at g5
  rw [z1, z2] at g3
  rw [z3] at g4
  rw [z1] at g2
  rw [z4]
  exact ⟨⟨_, g5, rfl⟩, h _ g5 g3 g4 ⟨_, g1, rfl, rfl⟩ ⟨_, g2, rfl, rfl⟩ z5 fun c o x =>
    Heap.get?_push_of_some _ (Heap.get?_push_of_some _ (Heap.get?_push_of_some _ (Heap.get?_push_of_some _ (Heap.get?_push_of_some _ x))))⟩
end
end RZ
namespace RZ
open PySem PySem.Spec PyProof.Rows L2
/-- the list at a, the tuple at b as they stand at each turn, the items in new pairs -/
def ItzLT (K : PySem.W.Frag) (a b : Addr) : It :=
  ⟨fun i H => ∃ (xs ys : List V) (x y : V), SqL K H a xs ∧ SqT K H b ys ∧ xs[i]? = some x ∧ ys[i]? = some y,
    fun i H v H' => ∃ T x y, v = .ref T ∧ H T = none ∧ H' = upd H T (.tup [x, y]) ∧ (∀ xs, SqL K H a xs → xs[i]? = some x) ∧ ∀ ys, SqT K H b ys → ys[i]? = some y,
    fun i H => ∃ xs ys : List V, SqL K H a xs ∧ SqT K H b ys ∧ (xs.length ≤ i ∨ ys.length ≤ i)⟩
theorem turn_zipLT {P : Program} {w : World} {K : PySem.W.Frag} {elts : List Expr} {kk : Nat} {tpos : Pos} {a b z TI TO i1 i2 : Addr} (D : ZipApart z TI TO i1 i2 a b) :
    Turn P w K (.Tuple elts kk tpos) (ItzLT K a b) [z, TI, TO, i1, i2] z (fun i h => IsZip h z TI TO .none ∧ IsPair h TI (.ref i1) (.ref i2) ∧ (∃ x y, IsPair h TO x y) ∧ h.IsListIter i1 a i ∧ h.IsTupleIter i2 b i) where
  mem := by simp
  obj := fun i h st c hc => by
    obtain ⟨hz, hTI, ⟨x, y, hTO⟩, ⟨o1, e1, _, d1⟩, ⟨o2, e2, _, d2⟩⟩ := st
    have e' : c = z ∨ c = TI ∨ c = TO ∨ c = i1 ∨ c = i2 := by simpa using hc
    rcases e' with q | q | q | q | q
    · rw [q]; exact ⟨_, hz, fun v q => nomatch q⟩
    · rw [q]; exact ⟨_, hTI, fun v q => nomatch q⟩
    · rw [q]; exact ⟨_, hTO, fun v q => nomatch q⟩
    · rw [q]; exact ⟨o1, e1, fun v q => by rw [d1] at q; cases q⟩
    · rw [q]; exact ⟨o2, e2, fun v q => by rw [d2] at q; cases q⟩
  keep := fun i h h' st k => by
    obtain ⟨hz, hTI, ⟨x, y, hTO⟩, h1, h2⟩ := st
    exact ⟨k z (by simp) _ hz, k TI (by simp) _ hTI, ⟨x, y, k TO (by simp) _ hTO⟩, h1.at fun o q => k i1 (by simp) o q, h2.at fun o q => k i2 (by simp) o q⟩
  item := by
    intro X hP hw hK hc i pins s σ H E I hf st hg
    subst hP hw hK
    obtain ⟨hz, hTI, ⟨x0, y0, hTO⟩, h1, h2⟩ := st
    obtain ⟨xs, ys, x, y, hqx, hqy, hx, hy⟩ := hg
    obtain ⟨its, rv, p, _⟩ := I.list hqx
    obtain ⟨its2, rv2, p2, _⟩ := I.tuple hqy
    obtain ⟨u, hu, ru⟩ := rv.get hx
    obtain ⟨u2, hu2, ru2⟩ := rv2.get hy
    have hzl : z < s.heap.objs.size := Heap.lt_size hz
    refine pyNext_zipLT_item D hz hTI hTO h1 h2 p.isList p2 (x := u) (y := u2) (by simpa using hu) (by simpa using hu2) fun h' z' TO' h1' h2' hT hsz hk => ?_
    refine ⟨_, rfl, wpAny_letOwnedTupleGo_zip (s := { s with heap := h' }) z' fun h'' z'' sb => ?_⟩
    have hT2 : h''.get? s.heap.objs.size = some { cls := .type "tuple", data := .seq #[u, u2] } := (sb.2 _ (Nat.ne_of_gt hzl)).trans hT
    have new : ObjOk X.prog X.w (upd H s.heap.objs.size (.tup [x, y])) h'' s.heap.objs.size (.tup [x, y]) :=
      ⟨by show 2 ≤ sizeLine; decide, [u, u2], .cons ru (.cons ru2 .nil), ⟨_, hT2, rfl, _, rfl⟩⟩
    have I1 : Inv X pins σ (upd H s.heap.objs.size (.tup [x, y])) { s with heap := h'' } :=
      I.turnedNew (t' := s.toks) (ch := [z, TI, TO, i1, i2]) (fun c o hb q => (sb.2 c (fun q' => hb (by simp [q']))).trans (hk c o (fun q' => hb (by simp [q'])) (fun q' => hb (by simp [q'])) (fun q' => hb (by simp [q'])) (fun q' => hb (by simp [q'])) q)) hf (Nat.le_refl _) new
    refine ⟨.ref s.heap.objs.size, _, I1, rfl, ⟨_, x, y, rfl, I.hok.fresh (Nat.le_refl _), rfl, fun l hl => by rw [I.list_inj hl hqx]; exact hx, fun l hl => by rw [I.tuple_inj hl hqy]; exact hy⟩, ⟨z'', ?_, ⟨u, u2, ?_⟩, ?_, ?_⟩, fun c hcm => ?_⟩
    · exact (sb.2 _ D.TIz).trans (hk _ _ D.TIz D.TITO D.TIi1 D.TIi2 hTI)
    · exact (sb.2 _ D.TOz).trans TO'
    · exact h1'.at fun o q => (sb.2 _ D.i1z).trans q
    · exact h2'.at fun o q => (sb.2 _ D.i2z).trans q
    · have hlt : c < s.heap.objs.size := by
        have e' : c = z ∨ c = TI ∨ c = TO ∨ c = i1 ∨ c = i2 := by simpa using hcm
        rcases e' with q | q | q | q | q
        · rw [q]; exact hzl
        · rw [q]; exact Heap.lt_size hTI
        · rw [q]; exact Heap.lt_size hTO
        · rw [q]; obtain ⟨_, e1, _⟩ := h1; exact Heap.lt_size e1
        · rw [q]; obtain ⟨_, e2, _⟩ := h2; exact Heap.lt_size e2
      rw [upd_ne (Nat.ne_of_lt hlt)]
      exact (hf c hcm).1
  done := by
    intro X hP hw hK hc i pins s σ H E I hf st hg
    subst hP hw hK
    obtain ⟨hz, hTI, ⟨x0, y0, hTO⟩, h1, h2⟩ := st
    obtain ⟨xs, ys, hqx, hqy, hend⟩ := hg
    obtain ⟨its, rv, p, _⟩ := I.list hqx
    obtain ⟨its2, rv2, p2, _⟩ := I.tuple hqy
    have l1 := rv.length
    have l2 := rv2.length
    have he : its.toArray[i]? = none ∨ its2.toArray[i]? = none := by
      rcases hend with q | q
      · exact .inl (by simp; omega)
      · exact .inr (by simp; omega)
    exact pyNext_zipLT_end (I.ok.hd hc) D hz hTI hTO h1 h2 p.isList p2 he fun h' hk => ⟨rfl, I.turnedL (t' := s.toks) (ch := [z, TI, TO, i1, i2]) (fun c o hb q =>
      hk c o (fun q' => hb (by simp [q'])) (fun q' => hb (by simp [q'])) (fun q' => hb (by simp [q'])) (fun q' => hb (by simp [q'])) q) hf⟩
  self := fun A i s Q E st h => wpAny_pyIter_zip st.1 h

def iZipLT (K : PySem.W.Frag) (ta : TA) : TI := fun σ H R => ta σ H fun vs H1 => ∃ a b xs ys, vs = [.ref a, .ref b] ∧ SqL K H1 a xs ∧ SqT K H1 b ys ∧ R (ItzLT K a b) H1
theorem pi_zipLT {X : Cx} {e e2 : Expr} {ta : TA} {p pos tpos : Pos} {elts : List Expr} {kk : Nat} (hg : Gl X "zip") (hm : X.mg "zip" = none) (ha : PA X [e, e2] ta)
    (hs : starEach [e, e2] X.env = (false, eval e X.env) :: starEach [e2] X.env := by rfl) (hpl : (backTo pos (starEach [e2] X.env)).any (·.1) = false := by rfl) :
    PI X (.Tuple elts kk tpos) (.Call (.Name "zip" p) [e, e2] [] pos) (iZipLT X.K ta) := by
  refine ⟨fun pins s σ H R I h => ?_⟩
  refine Call_ (ld_blt I hg hm PyProof.Rows.boot_zip (PyProof.Rows.callWith_type1 (thn (ha.run pos pins s σ H _ I h) fun us s1 ⟨vs, H1, I1, r1, q1⟩ => ?_) hs hpl))
  obtain ⟨a, b, xs, ys, ex, q1⟩ := q1
  subst ex
  cases r1 with
  | cons r rr =>
    cases rr with
    | cons r' rr =>
      cases rr
      cases r
      cases r'
      have fresh5 : ∀ c, c ∈ [s1.heap.objs.size + 4, s1.heap.objs.size + 2, s1.heap.objs.size + 3, s1.heap.objs.size, s1.heap.objs.size + 1] → FpOk X pins H1 c := fun c hcm => by
        have e' : c = s1.heap.objs.size + 4 ∨ c = s1.heap.objs.size + 2 ∨ c = s1.heap.objs.size + 3 ∨ c = s1.heap.objs.size ∨ c = s1.heap.objs.size + 1 := by simpa using hcm
        have hle : s1.heap.objs.size ≤ c := by
          rcases e' with z | z | z | z | z
          · rw [z]; exact Nat.le_add_right _ _
          · rw [z]; exact Nat.le_add_right _ _
          · rw [z]; exact Nat.le_add_right _ _
          · rw [z]; exact Nat.le_refl _
          · rw [z]; exact Nat.le_add_right _ _
        exact I1.fpOk hle (I1.hok.fresh hle)
      obtain ⟨hqx, hqy, q⟩ := q1
      obtain ⟨its, rv, p1, _⟩ := I1.list hqx
      obtain ⟨its2, rv2, p2, _⟩ := I1.tuple hqy
      obtain ⟨o2, ho2, _⟩ := id p2
      refine call_zipLT p1.isList (show s1.heap.IsTuple b its2.toArray from p2) fun h' hz hTI hTO h1 h2 hsz hk => wpAny_pyIter_zip hz ?_
      have I2 : Inv X pins σ H1 { s1 with heap := h' } := I1.kept (t' := s1.toks) hk
      exact ⟨s1.heap.objs.size + 4, [s1.heap.objs.size + 4, s1.heap.objs.size + 2, s1.heap.objs.size + 3, s1.heap.objs.size, s1.heap.objs.size + 1], _, _, H1, rfl, I2, turn_zipLT (PySem.W.ktu_apart s1.heap.objs.size a b p1.lt (Heap.lt_size ho2)), ⟨hz, hTI, ⟨_, _, hTO⟩, h1, h2⟩, fresh5, q⟩

end RZ

end
section
set_option Elab.async false
set_option linter.all false
set_option maxRecDepth 100000
set_option maxHeartbeats 1000000
/-! EwV: more typed words. -/
namespace Ew
open PySem PySem.Spec PyProof.Rows L2
theorem passE0 {X : Cx} {σ : L2.St} : PassesAt (L2.CX X.prog X.w) X σ E0 := fun pins H s e s' I c => passL pins σ H s e s' I c
section
variable {W : Wd} {Γ Γ' : Gam} {K : PySem.W.Frag} {T U A C P : Typ} {Ts Us : List Typ} {ds es : List PyData} {d : PyData} {ta : TA} {te tb : TE} {g : TG} {vs : List Nat} {i j : Int}
theorem RpA.rep {M : Addr → Prop} {H : Hp} {vs : List V} {ds : List PyData} (h : RpA M K H vs ds) : ∀ n : Nat, RpA M K H (List.replicate n vs).flatten (List.replicate n ds).flatten
  | 0 => .nil
  | n + 1 => by
    rw [List.replicate_succ, List.replicate_succ, List.flatten_cons, List.flatten_cons]
    exact h.append (RpA.rep h n)
theorem TysV.rep {M B : Addr → Prop} {H : Hp} {vs : List V} (h : TysV M B Ts vs H) : ∀ n : Nat, TysV M B (List.replicate n Ts).flatten (List.replicate n vs).flatten H
  | 0 => True.intro
  | n + 1 => by
    rw [List.replicate_succ, List.replicate_succ, List.flatten_cons, List.flatten_cons]
    exact h.append (TysV.rep h n)
theorem len_rep {α : Type} (l : List α) (n : Nat) : (List.replicate n l).flatten.length = n * l.length := by
  induction n with
  | zero => simp
  | succ n ih => rw [List.replicate_succ, List.flatten_cons, List.length_append, ih]; rw [Nat.succ_mul]; omega
/-- list * int -/
theorem opt_repL (h0 : -1000 ≤ j) (h1 : j ≤ 1000) (hz : Ts.length ≤ 1000) : OpT W rRep (lstT Ts) (dt K (.int j)) (lstT (List.replicate j.toNat Ts).flatten) := fun u v H c hu hv Q q => by
  cases hv
  obtain ⟨a, xs, rfl, ha, h2, h3⟩ := hu
  refine ⟨a, j, xs, rfl, rfl, h2, by omega, by omega, ?_, fun p hp => q _ _ (Ex.new hp) ⟨p, _, rfl, c.nm hp, upd_same, (h3.rep _).up (Ex.new (B := W.B) hp).toW⟩⟩
  have e := h3.length
  refine sz_le ?_
  have : xs.length * j.toNat ≤ 1000 * 1000 := Nat.mul_le_mul (by omega) (by omega)
  omega
/-- tuple * int, not empty, at least 2 -/
theorem opt_repT (h0 : 2 ≤ j) (h1 : j ≤ 1000) (hn : ds ≠ []) (hz : ds.length ≤ 1000) : OpT W (rRepT K) (dt K (.tuple ds)) (dt K (.int j)) (dt K (.tuple (List.replicate j.toNat ds).flatten)) := fun u v H c hu hv Q q => by
  cases hv
  cases hu with
  | @tup a xs _ h2 h3 =>
    have e := h3.length
    refine ⟨a, j, xs, rfl, rfl, h2, fun z => hn ?_, h0, h1, by omega, fun p hp => q _ _ (Ex.new hp) (.tup (SqT.of upd_same) (RpA.up (Ex.new (B := W.B) hp).toW (h3.rep _)))⟩
    subst z
    exact List.eq_nil_of_length_eq_zero (by simpa using e.symm)
/-! ### a list and a tuple together -/
theorem walk_zipLT {a b : Addr} {xs ys : List V} {n : Nat} (hn : n = min xs.length ys.length) : Walk (RZ.ItzLT K a b) n (fun H => SqL K H a xs ∧ SqT K H b ys) (YPair (fun i => xs[i]?) (fun i => ys[i]?)) := by
  subst hn
  refine ⟨fun i _ hi q => ?_, fun _ q => ⟨xs, ys, q.1, q.2, by omega⟩, fun i H v H' _ q y => ?_⟩
  · have h1 : i < xs.length := by omega
    have h2 : i < ys.length := by omega
    exact ⟨xs, ys, xs[i], ys[i], q.1, q.2, by simp [h1], by simp [h2]⟩
  · obtain ⟨T, x, z, h1, h2, h3, h4, h5⟩ := y
    exact ⟨T, x, z, h1, h2, h3, h4 xs q.1, h5 ys q.2⟩
theorem tyi_zipLT (h : TyA W Γ ta [lstT Ts, tupT K Us]) : TyI W Γ (RZ.iZipLT K ta) ((Ts.zip Us).map fun p => tupT K [p.1, p.2]) := fun σ H c g R q => h σ H c g _ fun us H1 e hu => by
  obtain ⟨v, w, rfl, ⟨a, xs, rfl, h0, h2, h3⟩, ⟨b, ys, rfl, h4, h5⟩⟩ := hu.two
  refine ⟨a, b, xs, ys, rfl, SqL.of h2, h4, q _ H1 e ⟨fun H => SqL K H a xs ∧ SqT K H b ys, YPair (fun i => xs[i]?) (fun i => ys[i]?), ?_, ⟨SqL.of h2, h4⟩, fun M' m => ⟨fun Ha Hb f z => ⟨f.sqL (m.nm h2 h0) z.1, f.sqT z.2⟩, fun i Ha x Hb T hT f z y => ?_⟩⟩⟩
  · refine walk_zipLT ?_
    rw [List.length_map, List.length_zip]
    exact zip_len h3.length h5.length
  · obtain ⟨Tp, x0, y0, rfl, hn, rfl, ex, ey⟩ := y
    obtain ⟨A, C, q1, q2, rfl⟩ := zip_map_get hT
    obtain ⟨x1, e1, r1⟩ := (m.tys h3).get q1
    obtain ⟨y1, e2, r2⟩ := (m.tys h5).get q2
    have ex' := e1.symm.trans ex
    cases ex'
    have ey' := e2.symm.trans ey
    cases ey'
    exact ⟨Ex.new hn, Tp, _, rfl, SqT.of upd_same, Typ.up _ (f.trans ((Ex.new (B := W.B) hn).toM m.sub)) r1, Typ.up _ (f.trans ((Ex.new (B := W.B) hn).toM m.sub)) r2, True.intro⟩
theorem tyi_zipLTA {β γ : Type} {as : List β} {bs : List γ} {f : β → PyData} {h : γ → PyData} (ha : Ty W Γ te (dt K (.list (as.map f)))) (hb : Ty W Γ tb (dt K (.tuple (bs.map h)))) :
    TyI W Γ (RZ.iZipLT K (tCons te (tCons tb tNil))) ((as.zip bs).map fun p => tupT K [dt K (f p.1), dt K (h p.2)]) := by
  have z := tyi_zipLT (W := W) (Γ := Γ) (K := K) (Ts := (as.map f).map (dt K)) (Us := (bs.map h).map (dt K)) (tya_cons (ha.sub fun _ _ _ => data_lstT) (tya_cons (hb.sub fun _ _ _ => data_tupT) tya_nil))
  have e : ((((as.map f).map (dt K)).zip ((bs.map h).map (dt K))).map fun p => tupT K [p.1, p.2]) = ((as.zip bs).map fun p => tupT K [dt K (f p.1), dt K (h p.2)]) := by
    rw [List.map_map, List.map_map, List.zip_map, List.map_map]
    rfl
  rw [e] at z
  exact z
theorem opt_repI (h0 : -1000 ≤ j) (h1 : j ≤ 1000) (hz : ds.length ≤ 1000) : OpT W rRep (dt K (.list ds)) (dt K (.int j)) (dt K (.list (List.replicate j.toNat ds).flatten)) := fun u v H c hu hv Q q =>
  opt_repL (Ts := ds.map (dt K)) h0 h1 (by simpa using hz) u v H c (data_lstT hu) hv Q fun w H1 e z => q w H1 e (lstT_data (by
    have e2 : (List.replicate j.toNat (ds.map (dt K))).flatten = ((List.replicate j.toNat ds).flatten).map (dt K) := by rw [List.map_flatten, List.map_replicate]
    rw [e2] at z; exact z))
end
/-! ### words, K told -/
section
variable {X : Cx} {e : Expr} {es : List Expr} {t : TA} {p pos : Pos} {te : TE}
theorem k_len {K : PySem.W.Frag} (hK : X.K = K) (m : X.mg "len" = none) (ha : PA X (e :: es) t) (hg : Gl X "len" := by rfl) (he : starEach (e :: es) X.env = (false, eval e X.env) :: starEach es X.env := by rfl) (hpl : (backTo pos (starEach es X.env)).any (·.1) = false := by rfl) :
    PE X (.Call (.Name "len" p) (e :: es) [] pos) (tCB (rLen K) t) := hK ▸ bi_len m ha hg he hpl
theorem k_isi {K : PySem.W.Frag} (hK : X.K = K) (m : X.mg "isinstance" = none) (ha : PA X (e :: es) t) (hg : Gl X "isinstance" := by rfl) (he : starEach (e :: es) X.env = (false, eval e X.env) :: starEach es X.env := by rfl) (hpl : (backTo pos (starEach es X.env)).any (·.1) = false := by rfl) :
    PE X (.Call (.Name "isinstance" p) (e :: es) [] pos) (tCB (rIsi K) t) := hK ▸ bi_isi m ha hg he hpl
theorem k_isi2 {K : PySem.W.Frag} (hK : X.K = K) (m : X.mg "isinstance" = none) (ha : PA X (e :: es) t) (hg : Gl X "isinstance" := by rfl) (he : starEach (e :: es) X.env = (false, eval e X.env) :: starEach es X.env := by rfl) (hpl : (backTo pos (starEach es X.env)).any (·.1) = false := by rfl) :
    PE X (.Call (.Name "isinstance" p) (e :: es) [] pos) (tCB (rIsiT K) t) := hK ▸ bi_isi2 m ha hg he hpl
theorem k_tuple {K : PySem.W.Frag} (hK : X.K = K) (m : X.mg "tuple" = none) (ha : PA X (e :: es) t) (hg : Gl X "tuple" := by rfl) (he : starEach (e :: es) X.env = (false, eval e X.env) :: starEach es X.env := by rfl) (hpl : (backTo pos (starEach es X.env)).any (·.1) = false := by rfl) :
    PE X (.Call (.Name "tuple" p) (e :: es) [] pos) (tCB (rTupOf K) t) := hK ▸ bi_tuple m ha hg he hpl
theorem k_list {K : PySem.W.Frag} (hK : X.K = K) (m : X.mg "list" = none) (ha : PA X (e :: es) t) (hg : Gl X "list" := by rfl) (he : starEach (e :: es) X.env = (false, eval e X.env) :: starEach es X.env := by rfl) (hpl : (backTo pos (starEach es X.env)).any (·.1) = false := by rfl) :
    PE X (.Call (.Name "list" p) (e :: es) [] pos) (tCB (rLstOf K) t) := hK ▸ bi_list m ha hg he hpl
theorem k_sum {K : PySem.W.Frag} (hK : X.K = K) (m : X.mg "sum" = none) (ha : PA X (e :: es) t) (hc : X.calm = true := by rfl) (hg : Gl X "sum" := by rfl) (he : starEach (e :: es) X.env = (false, eval e X.env) :: starEach es X.env := by rfl) (hpl : (backTo pos (starEach es X.env)).any (·.1) = false := by rfl) :
    PE X (.Call (.Name "sum" p) (e :: es) [] pos) (tCB (rSum K) t) := hK ▸ bi_sum m ha hc hg he hpl
theorem k_all {K : PySem.W.Frag} (hK : X.K = K) (m : X.mg "all" = none) (ha : PA X (e :: es) t) (hc : X.calm = true := by rfl) (hg : Gl X "all" := by rfl) (he : starEach (e :: es) X.env = (false, eval e X.env) :: starEach es X.env := by rfl) (hpl : (backTo pos (starEach es X.env)).any (·.1) = false := by rfl) :
    PE X (.Call (.Name "all" p) (e :: es) [] pos) (tCB (rAll K) t) := hK ▸ bi_all m ha hc hg he hpl
theorem k_max1 {K : PySem.W.Frag} (hK : X.K = K) (m : X.mg "max" = none) (ha : PA X (e :: es) t) (hc : X.calm = true := by rfl) (hg : Gl X "max" := by rfl) (he : starEach (e :: es) X.env = (false, eval e X.env) :: starEach es X.env := by rfl) (hpl : (backTo pos (starEach es X.env)).any (·.1) = false := by rfl) :
    PE X (.Call (.Name "max" p) (e :: es) [] pos) (tCB (rMax K) t) := hK ▸ bi_max1 m ha hc hg he hpl
theorem k_add {K : PySem.W.Frag} (hK : X.K = K) : OpR X (binaryOp .Add) (rAddA K) := hK ▸ op_addA
theorem k_eq {K : PySem.W.Frag} (hK : X.K = K) (hu : X.A.units + 64 < cLine) : OpR X (compareOp .Eq) (rEqA K) := hK ▸ op_eqA hu
theorem k_ne {K : PySem.W.Frag} (hK : X.K = K) (hu : X.A.units + 64 < cLine) : OpR X (compareOp .NotEq) (rNeA K) := hK ▸ op_neA hu
theorem k_repT {K : PySem.W.Frag} (hK : X.K = K) : OpR X (binaryOp .Mult) (rRepT K) := hK ▸ op_repT
theorem k_ix {K : PySem.W.Frag} (hK : X.K = K) : IxR X (rIx K) := hK ▸ ix_seq
theorem k_slT {K : PySem.W.Frag} (hK : X.K = K) : SlR X (rSlT K) := hK ▸ sl_tup
theorem k_slL {K : PySem.W.Frag} (hK : X.K = K) : SlR X (rSlL K) := hK ▸ sl_list
theorem k_itup {K : PySem.W.Frag} (hK : X.K = K) {tg l : Expr} {tl : TE} (hl : PE X l tl) : PI X tg l (iTup K tl) := hK ▸ pi_tup hl
theorem k_ilist {K : PySem.W.Frag} (hK : X.K = K) {tg l : Expr} {tl : TE} (hl : PE X l tl) : PI X tg l (iList K tl) := hK ▸ pi_list hl
theorem k_ienum {K : PySem.W.Frag} (hK : X.K = K) {tpos : Pos} {elts : List Expr} {kk : Nat} (hm : X.mg "enumerate" = none) (ha : PA X [e] t) (hg : Gl X "enumerate" := by rfl) (hs : starEach [e] X.env = [(false, eval e X.env)] := by rfl) :
    PI X (.Tuple elts kk tpos) (.Call (.Name "enumerate" p) [e] [] pos) (iEnum K t) := hK ▸ pi_enum hg hm ha hs
theorem k_izip {K : PySem.W.Frag} (hK : X.K = K) {e2 : Expr} {tpos : Pos} {elts : List Expr} {kk : Nat} (hm : X.mg "zip" = none) (ha : PA X [e, e2] t) (hg : Gl X "zip" := by rfl) (hs : starEach [e, e2] X.env = (false, eval e X.env) :: starEach [e2] X.env := by rfl) (hpl : (backTo pos (starEach [e2] X.env)).any (·.1) = false := by rfl) :
    PI X (.Tuple elts kk tpos) (.Call (.Name "zip" p) [e, e2] [] pos) (RZ.iZipA K t) := hK ▸ RZ.pi_zipA hg hm ha hs hpl
theorem k_izipLT {K : PySem.W.Frag} (hK : X.K = K) {e2 : Expr} {tpos : Pos} {elts : List Expr} {kk : Nat} (hm : X.mg "zip" = none) (ha : PA X [e, e2] t) (hg : Gl X "zip" := by rfl) (hs : starEach [e, e2] X.env = (false, eval e X.env) :: starEach [e2] X.env := by rfl) (hpl : (backTo pos (starEach [e2] X.env)).any (·.1) = false := by rfl) :
    PI X (.Tuple elts kk tpos) (.Call (.Name "zip" p) [e, e2] [] pos) (RZ.iZipLT K t) := hK ▸ RZ.pi_zipLT hg hm ha hs hpl
theorem k_gtup {K : PySem.W.Frag} (hK : X.K = K) {ts : List Expr} {k : Nat} {u : TGs} {n : Nat} (h : PGs X ts u) (hc : X.calm = true := by rfl) (hn : (assignEach ts X.env).length = n := by rfl) (hst : (assignEach ts X.env).findIdx? (·.1) = none := by rfl) : PG X (.Tuple ts k pos) (gTup K n u) := hK ▸ pg_tup hc h hn hst
theorem k_gunl {K : PySem.W.Frag} (hK : X.K = K) {ts : List Expr} {k : Nat} {u : TGs} {n : Nat} (h : PGs X ts u) (hc : X.calm = true := by rfl) (hn : (assignEach ts X.env).length = n := by rfl) (hst : (assignEach ts X.env).findIdx? (·.1) = none := by rfl) : PG X (.Tuple ts k pos) (gUnl K n u) := hK ▸ pg_unl hc h hn hst
end
end Ew

end
section
set_option Elab.async false
set_option linter.all false
set_option maxRecDepth 100000
set_option maxHeartbeats 1000000
/-! EwU: lines and tables of ints as data; their equality; more typed words. -/
namespace Ew
open PySem PySem.Spec PyProof.Rows L2
def sizeD : PyData → Nat
  | .tuple l => l.length
  | .list l => l.length
  | .str s => s.length
  | .dict l => l.length
  | _ => 0
def intsD (l : List Int) : PyData := .tuple (l.map .int)
def linD (l : List Int) : PyData := .list (l.map .int)
def tabD (m : List (List Int)) : PyData := .tuple (m.map intsD)
def sm (v : Int) : Prop := v.natAbs < 2 ^ 4096
theorem sm_log {v : Int} (h : sm v) : v.natAbs.log2 < 5000 := by
  by_cases z : v.natAbs = 0
  · rw [z]; decide
  · have := (Nat.log2_lt z).mpr h
    omega
theorem sm_mul {a b : Int} (h : sm a) (k : sm b) : L2.CMulW a b := by
  have h1 := sm_log h
  have h2 := sm_log k
  unfold L2.CMulW
  omega
def sml (l : List Int) : Prop := l.length ≤ 1000 ∧ ∀ v ∈ l, sm v
def smt (m : List (List Int)) : Prop := m.length ≤ 1000 ∧ ∀ l ∈ m, sml l
def isWholeD : PyData → Bool
  | .int _ => true
  | _ => false
/-! ### equality of data -/
theorem lay_whole : ∀ {ds : List PyData}, ds.all isWholeD = true → PyData.canLayAll0 ds = true ∧ PyData.depthAll ds = 0
  | [], _ => ⟨rfl, rfl⟩
  | d :: ds, h => by
    rw [List.all_cons, Bool.and_eq_true] at h
    obtain ⟨h1, h2⟩ := h
    obtain ⟨k1, k2⟩ := lay_whole h2
    cases d <;> simp [isWholeD] at h1
    exact ⟨by simp [PyData.canLayAll0, PyData.canLay0, k1], by simp [PyData.depthAll, PyData.depth, k2]⟩
theorem shaped_whole {ds : List PyData} (h : ds.all isWholeD = true) : SeqAt.shaped (.tuple ds) = true := by
  obtain ⟨k1, k2⟩ := lay_whole h
  simp [SeqAt.shaped, PyData.canLay0, PyData.depth, k1, k2]
theorem all_whole (l : List Int) : (l.map PyData.int).all isWholeD = true := by
  rw [List.all_map]
  exact List.all_eq_true.mpr fun _ _ => rfl
theorem shaped_ints (l : List Int) : SeqAt.shaped (intsD l) = true := shaped_whole (all_whole l)
theorem lay_tab : ∀ m : List (List Int), PyData.canLayAll0 (m.map intsD) = true ∧ PyData.depthAll (m.map intsD) ≤ 1
  | [] => ⟨rfl, by simp [PyData.depthAll]⟩
  | l :: m => by
    obtain ⟨k1, k2⟩ := lay_tab m
    obtain ⟨h1, h2⟩ := lay_whole (all_whole l)
    refine ⟨?_, ?_⟩
    · rw [List.map_cons, PyData.canLayAll0, k1, intsD, PyData.canLay0, h1]; rfl
    · rw [List.map_cons, PyData.depthAll, intsD, PyData.depth, h2]
      exact Nat.max_le.mpr ⟨Nat.le_refl _, k2⟩
theorem shaped_tab (m : List (List Int)) : SeqAt.shaped (tabD m) = true := by
  obtain ⟨k1, k2⟩ := lay_tab m
  unfold SeqAt.shaped tabD
  rw [PyData.canLay0, k1, PyData.depth, Bool.true_and]
  exact decide_eq_true (by omega)
theorem eqv_nil (ds : List PyData) : PyData.eqv (.tuple ds) (.tuple []) = decide (ds.length = 0) := by
  cases ds <;> simp [PyData.eqv, PyData.eqvAll]
theorem eqv_nilL (ds : List PyData) : PyData.eqv (.list ds) (.list []) = decide (ds.length = 0) := by
  cases ds <;> simp [PyData.eqv, PyData.eqvAll]
theorem eqvAll_ints : ∀ a b : List Int, PyData.eqvAll (a.map .int) (b.map .int) = decide (a = b)
  | [], [] => by simp [PyData.eqvAll]
  | [], b :: bs => by simp [PyData.eqvAll]
  | a :: as, [] => by simp [PyData.eqvAll]
  | a :: as, b :: bs => by
    rw [List.map_cons, List.map_cons, PyData.eqvAll, eqvAll_ints as bs, PyData.eqv]
    by_cases h1 : a = b <;> by_cases h2 : as = bs <;> simp [h1, h2]
theorem eqv_ints (a b : List Int) : PyData.eqv (intsD a) (intsD b) = decide (a = b) := by
  rw [intsD, intsD, PyData.eqv, eqvAll_ints]
theorem eqvAll_tab : ∀ a b : List (List Int), PyData.eqvAll (a.map intsD) (b.map intsD) = decide (a = b)
  | [], [] => by simp [PyData.eqvAll]
  | [], b :: bs => by simp [PyData.eqvAll]
  | a :: as, [] => by simp [PyData.eqvAll]
  | a :: as, b :: bs => by
    rw [List.map_cons, List.map_cons, PyData.eqvAll, eqvAll_tab as bs, eqv_ints]
    by_cases h1 : a = b <;> by_cases h2 : as = bs <;> simp [h1, h2]
theorem eqv_tab (a b : List (List Int)) : PyData.eqv (tabD a) (tabD b) = decide (a = b) := by
  rw [tabD, tabD, PyData.eqv, eqvAll_tab]
section
variable {W : Wd} {Γ Γ' : Gam} {K : PySem.W.Frag} {T U A C P : Typ} {Ts Us : List Typ} {ds es : List PyData} {d : PyData} {ta tc : TA} {te tb td : TE} {g : TG} {vs : List Nat} {i j : Int} {r r' : R2} {a b : Bool}
theorem ty_chain {ta tb tc : TE} (h1 : Ty W Γ ta A) (h2 : Ty W Γ tb C) (ho : OpT W r A C (dt K (.bool a))) (h3 : a = true → Ty W Γ tc P) (ho' : OpT W r' C P (dt K (.bool b))) : Ty W Γ (tChain r r' ta tb tc) (dt K (.bool (a && b))) := fun σ H c g Q q =>
  h1 σ H c g _ fun u H1 e1 hu => h2 σ H1 (c.up e1) (g.up e1.toW) _ fun v H2 e2 hv => ho u v H2 (c.up (e1.trans e2)) (A.up e2.toW hu) hv _ fun z H3 e3 hz => by
    have e13 := e1.trans (e2.trans e3)
    cases hz
    refine ⟨a, rfl, ?_⟩
    cases a with
    | true =>
      rw [if_pos rfl]
      exact h3 rfl σ H3 (c.up e13) (g.up e13.toW) _ fun w H4 e4 hw => ho' v w H4 (c.up (e13.trans e4)) (C.up (e3.trans e4).toW hv) hw Q fun z H5 e5 hz => q z H5 (e13.trans (e4.trans e5)) (by rw [Bool.true_and]; exact hz)
    | false =>
      rw [if_neg Bool.false_ne_true]
      exact q _ H3 e13 (.bl _)
theorem opt_ix0 : OpT W (rIx K) (dt K (.tuple (d :: ds))) (dt K (.int 0)) (dt K d) := opt_ixT (i := 0) (atI_nat (j := 0) rfl)
theorem opt_ixTN {n : Nat} (e : ds[n]? = some d) : OpT W (rIx K) (dt K (.tuple ds)) (dt K (.int (n : Nat))) (dt K d) := opt_ixT (atI_nat e)
theorem opt_eqNil (h : ds.all isWholeD = true) : OpT W (rEqA K) (dt K (.tuple ds)) (dt K (.tuple [])) (dt K (.bool (decide (ds.length = 0)))) := by
  have z := opt_eqD (W := W) (K := K) (shaped_whole h) (show SeqAt.shaped (.tuple []) = true from rfl)
  rw [eqv_nil] at z
  exact z
theorem opt_eqT {a b : List (List Int)} : OpT W (rEqA K) (dt K (tabD a)) (dt K (tabD b)) (dt K (.bool (decide (a = b)))) := by
  have z := opt_eqD (W := W) (K := K) (shaped_tab a) (shaped_tab b)
  rw [eqv_tab] at z
  exact z
/-- what is empty is the empty list -/
theorem opt_eqL0 : OpT W (rEqA K) (dt K (.list [])) (dt K (.list [])) (dt K (.bool true)) := (opt_eqD (W := W) (K := K) (d := .list []) (e := .list []) rfl rfl)
end
end Ew

end
section
set_option Elab.async false
set_option linter.all false
set_option maxRecDepth 100000
set_option maxHeartbeats 1000000
/-! EwT: defs that hand back a new list; boxes; lists of unknowns. -/
namespace Ew
open PySem PySem.Spec PyProof.Rows L2
/-- a new list of values of the types Ts x -/
def spL {α : Type} (C : α → Prop) (A : α → List Typ) (Ts : α → List Typ) : Sp := fun vs H Q _ => ∃ (M B : Addr → Prop) (x : α), (∀ a, B a → M a) ∧ (∀ a, B a → BoxAt H a) ∧ (∀ a, M a → H a ≠ none) ∧ C x ∧ TysV M B (A x) vs H ∧
  ∀ p xs H', Ex B H H' → H p = none → H' p = some (.lst xs) → TysV M B (Ts x) xs H' → Q (.ref p) H'
def rL (W : Wd) (Ts : List Typ) : V → Hp → Prop := fun v H => ∃ p xs, v = .ref p ∧ Ex W.B W.H0 H ∧ W.H0 p = none ∧ H p = some (.lst xs) ∧ TysV W.M W.B Ts xs H
section
variable {W : Wd} {Γ : Gam} {tl : TA} {te : TE} {α : Type} {C : α → Prop} {A Ts : α → List Typ} {E : XK}
theorem tyl_call (x : α) (hC : C x) (h : TyA W Γ tl (A x)) : TyL W Γ (tCall (spL C A Ts) [] E tl) (Ts x) := fun σ H c g Q q =>
  h σ H c g _ fun vs H1 e1 hv => ⟨W.M, W.B, x, W.sub, (c.up e1).box, (c.up e1).al, hC, by rw [List.append_nil]; exact hv, fun p xs H2 e2 hp h2 h3 => q p xs H2 (e1.trans e2) (e1.free hp) h2 h3⟩
theorem tys_retL {Us : List Typ} {Bk Ct : Sx → Hp → Prop} (h : TyL W Γ te Us) : TyS W Γ (tRet te) noN (rL W Us) Bk Ct := fun σ H c g D _ dr _ _ => h σ H c g _ fun p xs H1 e hp h1 h2 => dr _ H1 ⟨p, xs, rfl, (c.up e).ex, c.ex.free hp, h1, h2⟩
variable {P : Program} {w : World} {K : PySem.W.Frag} {mg : Str → Option Value} {base : Heap}
theorem fn_tyL {x qual : Str} {st : Stmt} {f : Addr} {fd : FuncData} {N ps : List Str} {k : Nat} (F : Fun K x qual st f fd) (S : FnScope N ps (defScope st))
    (len : ∀ x, C x → (A x).length = ps.length)
    (hbody : ∀ (cdv : Value) (Ar : Around) (outer : List Env) (s : Shared) (H : Hp) (E : XK), Room k (Ar.deeper (envOfC qual (defScope st) s.heap.objs.size f cdv)) →
      ∃ t, PSs (cxOf (L2.CX P w) P w K mg base N qual (defScope st) f cdv Ar outer s H E).nox (defBody st) t ∧ ∀ (W : Wd) (x : α), C x → TyS W ((A x).map some ++ List.replicate (N.length - ps.length) none) t noN (rL W (Ts x)) noN noN) :
    FnOk P w K mg base (L2.CX P w) (k + 1) f fd ps (spL C A Ts) := by
  refine okN F S (fun vs H Q E h => ?_) fun cdv Ar outer s H vs Q E hr h => ?_
  · obtain ⟨M, B, x, _, _, _, hC, h, _⟩ := h
    rw [h.length, len x hC]
  · obtain ⟨M, B, x, hs, hb, ha, hC, h, q⟩ := h
    obtain ⟨t, ht, k⟩ := hbody cdv Ar outer s H E hr
    refine ⟨t, ht, k (Wd.base M B H hs) x hC (L2.start N vs) H ⟨hb, ha, Ex.refl B H, True.intro⟩ ?_ _ (fun σ' H' _ n => n.elim) (fun v H' n => ?_) (fun _ _ _ z => z.elim) (fun _ _ _ z => z.elim)⟩
    · unfold L2.start
      have e : vs.length = ps.length := by rw [h.length, len x hC]
      rw [e]
      exact env_start h _
    · obtain ⟨p, xs, rfl, h1, h2, h3, h4⟩ := n
      exact q p xs H' h1 h2 h3 h4
end
/-! ### a new box -/
/-- the box at p is one more -/
def Wd.bx (W : Wd) (p : Addr) : Wd := ⟨Ew.ad W.M p, fun a => W.B a ∨ a = p, W.H0, fun H => ∃ H1, W.Ω H1 ∧ H1 p = none ∧ Ex (fun a => W.B a ∨ a = p) H1 H, fun a h => h.imp (W.sub a) id, fun e ⟨H1, h1, h2, h3⟩ => ⟨H1, h1, h2, h3.trans e⟩⟩
theorem Ex.less {B : Addr → Prop} {p : Addr} {H H' : Hp} (e : Ex (fun a => B a ∨ a = p) H H') (h : H p = none) : Ex B H H' := fun a o q => (e a o q).imp id fun ⟨b, z⟩ => ⟨b.elim id fun w => absurd h (by rw [← w, q]; exact fun z => nomatch z), z⟩
theorem Ex.more {B : Addr → Prop} {p : Addr} {H H' : Hp} (e : Ex B H H') : Ex (fun a => B a ∨ a = p) H H' := e.sub fun _ h => .inl h
theorem Exm.thru {M B : Addr → Prop} {p : Addr} {H H1 H2 : Hp} (e : Exm M B H H1) (f : Exm (ad M p) (fun a => B a ∨ a = p) H1 H2) (hp : H p = none) : Exm M B H H2 := fun a o h => by
  have ne := ne_of_none h hp
  rcases e a o h with q | ⟨m, ⟨xs, rfl⟩, ⟨ys, q⟩, b⟩
  · rcases f a o q with r | ⟨m, x, y, b⟩
    · exact .inl r
    · exact .inr ⟨m.resolve_right ne, x, y, fun z z2 => b (.inl z) (by obtain ⟨xs, z3, z4⟩ := z2; rw [h] at z3; cases z3; exact ⟨xs, q, z4⟩)⟩
  · rcases f a _ q with r | ⟨_, _, y, b'⟩
    · exact .inr ⟨m, ⟨xs, rfl⟩, ⟨ys, r⟩, fun z1 z2 => by
        obtain ⟨zs, z3, z4⟩ := b z1 z2
        rw [q] at z3; cases z3
        exact ⟨ys, r, z4⟩⟩
    · exact .inr ⟨m, ⟨xs, rfl⟩, y, fun z1 z2 => b' (.inl z1) (b z1 z2)⟩
section
variable {W : Wd} {Γ Γ' : Gam} {te : TE} {tw : TS} {i : Nat} {Ts : List Typ} {T : Typ} {Bk Ct : Sx → Hp → Prop}
/-- box = .., then the rest in the wider world; behind it the slots of Γ' -/
theorem tys_box (h : TyL W Γ te Ts) (hx : ∀ xs H, TysV W.M W.B Ts xs H → BxL xs)
    (hΓ : ∀ p σ H0 H, Exm W.M W.B H0 H → H0 p = none → EnvL W.M W.B Γ σ H0 → EnvL (ad W.M p) (fun a => W.B a ∨ a = p) Γ σ H)
    (hb : ∀ p, ¬ W.M p → TyS (W.bx p) (Γ.set i (some bx)) tw (nE (W.bx p) Γ') (rW (W.bx p) T) noN noN)
    (hn : ∀ p σ H, EnvL (ad W.M p) (fun a => W.B a ∨ a = p) Γ' σ H → EnvL W.M W.B Γ' σ H) (hT : ∀ p v H, T.p (ad W.M p) (fun a => W.B a ∨ a = p) v H → T.p W.M W.B v H) :
    TyS W Γ (tSeq (tAsg te (gName i)) tw) (nE W Γ') (rW W T) Bk Ct := fun σ H c g D dn dr db dc =>
  h σ H c g _ fun p xs H1 e hp h1 h2 => by
    have n0 : W.H0 p = none := c.ex.free hp
    have nm : ¬ W.M p := c.nm hp
    have bx1 : BoxAt H1 p := ⟨xs, h1, hx xs H1 h2⟩
    have c1 := c.up e
    have c2 : Cxt (W.bx p) H1 := ⟨fun a z => z.elim (c1.box a) (fun w => by rw [w]; exact bx1), fun a z => z.elim (c1.al a) (fun w => by rw [w, h1]; intro q; cases q), c1.ex.more, H, c.own, hp, e.more⟩
    have g1 : EnvL (ad W.M p) (fun a => W.B a ∨ a = p) Γ σ H1 := hΓ p σ H H1 e.toW hp g
    have g2 : EnvL (ad W.M p) (fun a => W.B a ∨ a = p) (Γ.set i (some bx)) (σ.set i (some (.ref p))) H1 := EnvL.set (T := bx) ⟨p, rfl, .inr rfl, bx1⟩ g1
    refine hb p nm _ H1 c2 g2 D (fun σ' H' f n => dn σ' H' (e.toW.thru f hp) ⟨?_, hn p σ' H' n.2⟩) (fun v H' n => dr v H' ⟨n.1.less n0, hT p v H' n.2⟩) (fun _ _ _ z => z.elim) (fun _ _ _ z => z.elim)
    refine ⟨fun a z => n.1.box a (.inl z), fun a z => n.1.al a (.inl z), n.1.ex.less n0, ?_⟩
    obtain ⟨H2, o1, o2, o3⟩ := n.1.own
    exact W.kept (o3.less o2) o1
/-! ### values of which just something is known -/
theorem exT_list {α : Type} {A : α → Typ} {M B : Addr → Prop} {H : Hp} : ∀ {n : Nat} {xs : List V}, TysV M B (List.replicate n (exT A)) xs H → ∃ l : List α, l.length = n ∧ TysV M B (l.map A) xs H
  | 0, [], _ => ⟨[], rfl, True.intro⟩
  | n + 1, x :: xs, h => by
    obtain ⟨⟨y, hy⟩, h2⟩ := h
    obtain ⟨l, e, k⟩ := exT_list (n := n) h2
    exact ⟨y :: l, by rw [List.length_cons, e], hy, k⟩
  | 0, _ :: _, h => h.elim
  | n + 1, [], h => h.elim
theorem gd_list {α : Type} {A : α → Typ} {φ : α → Prop} {M B : Addr → Prop} {H : Hp} : ∀ {l : List α} {xs : List V}, TysV M B (l.map fun x => gd (φ x) (A x)) xs H → (∀ x ∈ l, φ x) ∧ TysV M B (l.map A) xs H
  | [], [], _ => ⟨(fun _ z => by cases z), True.intro⟩
  | y :: l, x :: xs, h => by
    obtain ⟨⟨h1, h2⟩, h3⟩ := h
    obtain ⟨k1, k2⟩ := gd_list (l := l) h3
    refine ⟨fun z hz => ?_, h2, k2⟩
    rcases List.mem_cons.mp hz with rfl | hz
    · exact h1
    · exact k1 z hz
  | [], _ :: _, h => h.elim
  | _ :: _, [], h => h.elim
/-- [.. for ..]: n values of one kind -/
theorem TyL.exs {α : Type} {A : α → Typ} {φ : α → Prop} {n : Nat} {K : PySem.W.Frag} (h : TyL W Γ te (List.replicate n (exT fun x : α => gd (φ x) (A x)))) :
    Ty W Γ (tCB (rTupOf K) (tCons te tNil)) (exT fun l : List α => gd (l.length = n ∧ ∀ x ∈ l, φ x) (tupT K (l.map A))) := (ty_tupOf (K := K) h).sub fun v H _ z => by
  obtain ⟨a, xs, h1, h2, h3⟩ := z
  obtain ⟨l, e, k⟩ := exT_list h3
  obtain ⟨k1, k2⟩ := gd_list k
  exact ⟨l, ⟨e, k1⟩, a, xs, h1, h2, k2⟩
theorem Ty.exs {α β : Type} {A : α → Typ} {C : β → Typ} (h : Ty W Γ te (exT A)) (k : ∀ x v H, (A x).at W v H → ∃ y, (C y).at W v H) : Ty W Γ te (exT C) := h.sub fun v H _ ⟨x, z⟩ => k x v H z
theorem Ty.ex {α : Type} {A : α → Typ} (x : α) (h : Ty W Γ te (A x)) : Ty W Γ te (exT A) := h.sub fun v H _ z => ⟨x, z⟩
/-- an operator on an unknown -/
theorem ty_opX {α β : Type} {A : α → Typ} {C : Typ} {P : β → Typ} {r : R2} {ta tb : TE} (ha : Ty W Γ ta (exT A)) (hb : Ty W Γ tb C) (ho : ∀ x, ∃ y, OpT W r (A x) C (P y)) : Ty W Γ (tOp r ta tb) (exT P) := ty_op ha hb fun u v H c ⟨x, hu⟩ hv Q q => by
  obtain ⟨y, k⟩ := ho x
  exact k u v H c hu hv Q fun w H1 e z => q w H1 e ⟨y, z⟩
theorem ty_opY {α β : Type} {A : Typ} {C : α → Typ} {P : β → Typ} {r : R2} {ta tb : TE} (ha : Ty W Γ ta A) (hb : Ty W Γ tb (exT C)) (ho : ∀ x, ∃ y, OpT W r A (C x) (P y)) : Ty W Γ (tOp r ta tb) (exT P) := ty_op ha hb fun u v H c hu ⟨x, hv⟩ Q q => by
  obtain ⟨y, k⟩ := ho x
  exact k u v H c hu hv Q fun w H1 e z => q w H1 e ⟨y, z⟩
end
theorem OpT.gdl {W : Wd} {r : R2} {φ : Prop} {A C P : Typ} (h : φ → OpT W r A C P) : OpT W r (gd φ A) C P := fun u v H c ⟨f, hu⟩ hv Q q => h f u v H c hu hv Q q
theorem OpT.gdr {W : Wd} {r : R2} {φ : Prop} {A C P : Typ} (h : φ → OpT W r A C P) : OpT W r A (gd φ C) P := fun u v H c hu ⟨f, hv⟩ Q q => h f u v H c hu hv Q q
/-- a number below n, of which no more is known -/
def digT (K : PySem.W.Frag) (n : Nat) : Typ := exT fun k : Nat => gd (k < n) (dt K (.int (k : Nat)))
/-- one of these -/
def anyT (Ts : List Typ) : Typ := exT fun n : Nat => gd (n < Ts.length) (Ts.getD n (isV .non))
theorem ty_pick {W : Wd} {Γ : Gam} {K : PySem.W.Frag} {ta tb : TE} {Ts : List Typ} {n : Nat} (ha : Ty W Γ ta (lstT Ts)) (hb : Ty W Γ tb (digT K n)) (hn : n ≤ Ts.length) : Ty W Γ (tOp (rIx K) ta tb) (anyT Ts) := ty_opY ha hb fun k => by
  refine ⟨k, OpT.gdr fun f => ?_⟩
  have hk : k < Ts.length := by omega
  have e : Ts[k]? = some (Ts.getD k (isV .non)) := by rw [List.getD_eq_getElem?_getD, List.getElem?_eq_getElem hk]; rfl
  exact fun u v H c hu hv Q q => opt_ixLT e u v H c hu hv Q fun w H1 e1 z => q w H1 e1 ⟨hk, z⟩
end Ew

end
section
set_option Elab.async false
set_option linter.all false
set_option maxRecDepth 100000
set_option maxHeartbeats 1000000
/-! EwS: readings whose value is known, at a heap that is known. -/
namespace Ew
open PySem PySem.Spec PyProof.Rows L2
/-- te yields v and leaves the heap -/
def Ev (te : TE) (σ : Sx) (H : Hp) (v : V) : Prop := ∀ Q : VK, Q v H → te σ H Q
def EvA (tl : TA) (σ : Sx) (H : Hp) (vs : List V) : Prop := ∀ Q : List V → Hp → Prop, Q vs H → tl σ H Q
section
variable {σ : Sx} {H : Hp} {K : PySem.W.Frag} {te ta tb : TE} {tl : TA} {u v w : V} {vs : List V} {i j : Int} {n : Nat} {p : Addr} {xs : List V} {a b : Bool}
theorem ev_var (h : σ[n]? = some (some v)) : Ev (tVar n) σ H v := fun Q q => ⟨v, h, q⟩
theorem ev_c : Ev (tC v) σ H v := fun Q q => q
theorem ev_op {r : R2} (ha : Ev ta σ H u) (hb : Ev tb σ H v) (hr : ∀ Q : VK, Q w H → r u v H Q) : Ev (tOp r ta tb) σ H w := fun Q q => ha _ (hb _ (hr Q q))
theorem ev_I0 {g : Int → Int → V} (ha : Ev ta σ H (.int i)) (hb : Ev tb σ H (.int j)) : Ev (tOp (rI0 g) ta tb) σ H (g i j) := ev_op ha hb fun Q q => ⟨i, j, rfl, rfl, q⟩
theorem ev_I {D : Int → Int → Prop} {g : Int → Int → V} (hd : D i j) (ha : Ev ta σ H (.int i)) (hb : Ev tb σ H (.int j)) : Ev (tOp (rI D g) ta tb) σ H (g i j) := ev_op ha hb fun Q q => ⟨i, j, rfl, rfl, hd, q⟩
theorem ev_add (ha : Ev ta σ H (.int i)) (hb : Ev tb σ H (.int j)) : Ev (tOp (rAddA K) ta tb) σ H (.int (i + j)) := ev_op ha hb fun Q q => .inl ⟨i, j, rfl, rfl, q⟩
theorem ev_mul (hd : CMul i j) (ha : Ev ta σ H (.int i)) (hb : Ev tb σ H (.int j)) : Ev (tOp rMulA ta tb) σ H (.int (i * j)) := ev_op ha hb fun Q q => .inl ⟨i, j, rfl, rfl, hd, q⟩
theorem ev_div (hd : CDivW i j) (ha : Ev ta σ H (.int i)) (hb : Ev tb σ H (.int j)) : Ev (tOp rDivA ta tb) σ H (.int (i / j)) := ev_op ha hb fun Q q => .inl ⟨i, j, rfl, rfl, hd, q⟩
theorem ev_ix (hH : H p = some (.lst xs)) (e : atI xs i = some w) (ha : Ev ta σ H (.ref p)) (hb : Ev tb σ H (.int i)) : Ev (tOp (rIx K) ta tb) σ H w := ev_op ha hb fun Q q => .inl ⟨p, xs, i, w, rfl, rfl, SqL.of hH, e, q⟩
theorem eva_nil : EvA tNil σ H [] := fun Q q => q
theorem eva_cons (ha : Ev te σ H v) (hr : EvA tl σ H vs) : EvA (tCons te tl) σ H (v :: vs) := fun Q q => ha _ (hr _ q)
theorem ev_int (h : Ev te σ H (.int i)) : Ev (tCB rInt (tCons te tNil)) σ H (.int i) := fun Q q => h _ (.inl ⟨i, rfl, q⟩)
theorem Ev.tt {Q : Bool → Hp → Prop} (h : Ev te σ H (.bl a)) (q : Q a H) : tTest te σ H Q := h _ ⟨a, rfl, q⟩
theorem Ev.tbl {Q : Bool → Hp → Prop} (h : Ev te σ H (.bl a)) (q : Q a H) : tB te σ H Q := h _ ⟨a, rfl, q⟩
/-- x[j] = e, x a list -/
theorem ev_put {D : Ends} {tj : TE} {k : Nat} (he : Ev te σ H v) (hx : Ev ta σ H (.ref p)) (hj : Ev tj σ H (.int i)) (hH : H p = some (.lst xs)) (hk : ixN xs.length i = some k) (q : D.nx σ (upd H p (.lst (xs.set k v)))) : tAsg te (gSub ta tj rSetL) D σ H :=
  he _ (hx _ (hj _ ⟨p, xs, i, k, rfl, rfl, hH, hk, q⟩))
end
end Ew

end
section
set_option Elab.async false
set_option linter.all false
set_option maxRecDepth 100000
set_option maxHeartbeats 2000000
/-! EwQ: enumerate of a tuple (turned from the worked proofs for a list). -/
namespace PySem
open Sem (wp)
open AutoSeq1 (wpAny_loadPart')
theorem meets_enumerate_newT (l : Addr) (items : Array Value) (n : Nat) (dct : Option Addr) (sl : Array (Option Value)) :
    Meets (Builtin.«enumerate.__new__» ⟨[.type "enumerate", .ref l], []⟩) (fun _ R s => s.heap.get? l = some { cls := .type "tuple", dict := dct, data := .seq items n, slots := sl } ∧
      R (.ok (.ret (.ref (s.heap.push { cls := .type "tuple_iterator", data := .fields #[.ref l, .int 0 0] }).objs.size)))
        { s with heap := (s.heap.push { cls := .type "tuple_iterator", data := .fields #[.ref l, .int 0 0] }).push { cls := .type "enumerate", data := .fields #[.none, .bool false, .ref s.heap.objs.size, rawInt 0, .none, .none] } }) :=
  .of_wp fun prog w A R s h => by
    obtain ⟨hp, g, d, tk, os⟩ := s; obtain ⟨hl, h⟩ := h
    have hsub := sub_enumerate
    have hL : Heap.IsTuple (Shared.heap ⟨hp, g, d, tk, os⟩) l items := ⟨_, hl, rfl, n, rfl⟩
    wp_walk using wpAny_loadPart' hl
    refine wpAny_stack_any fun st => wpAny_pure ?_
    split
    · rename_i c _ _ _ _ _
      cases (c == Value.type "enumerate")
      · wp_walk using wpAny_loadPart' hl, wpAny_pyIter_tuple hL
        exact ⟨_, rfl, h⟩
      · wp_walk using wpAny_loadPart' hl, wpAny_pyIter_tuple hL
        exact ⟨_, rfl, h⟩
    · wp_walk using wpAny_loadPart' hl, wpAny_pyIter_tuple hL
      exact ⟨_, rfl, h⟩

section
variable {prog : Program} {w : World} {A : Around} {E : Value → Shared → Prop} {s : Shared}
theorem enumerate_next_itemT {e it l : Addr} {i : Nat} {items : Array Value} {x old : Value} {Q : Value → Shared → Prop}
    (he : IsEnum s.heap e it i old) (hit : s.heap.IsTupleIter it l i) (hl : s.heap.IsTuple l items) (hx : items[i]? = some x) (hne : e ≠ it)
    (hQ : ∀ h', IsEnumOut h' e it ((i : Int) + 1) x s.heap.objs.size → h'.IsTupleIter it l (i + 1) →
      h'.get? s.heap.objs.size = some { cls := .type "tuple", data := .seq #[.int i s.toks, x] } → h'.objs.size = s.heap.objs.size + 1 →
      (∀ b o, b ≠ e → b ≠ it → s.heap.get? b = some o → h'.get? b = some o) → Q (.ref s.heap.objs.size) { s with heap := h', toks := s.toks + 1 }) :
    wpAny (model prog w) A (Builtin.«enumerate.__next__» ⟨[.ref e], []⟩) (fun fin s' => ∃ v, fin = .done (.ret v) ∧ Q v s') E s := by
  obtain ⟨hp, g, d, tk, os⟩ := s
  show wpAny _ _ (field (.ref e) 2 >>= _) _ _ _
  refine wpAny_bind (wpAny_field he rfl (x := .ref it) rfl ?_)
  refine wpAny_bind (RZ.nextOf_tuple_item hit hl hx fun h₁ hit₁ hs₁ => ?_)
  replace hs₁ : Heap.SameBut it hp h₁ := hs₁
  have he₁ : IsEnum h₁ e it i old := (hs₁.2 e hne).trans he
  show wpAny _ _ (field (.ref e) 3 >>= _) _ _ ⟨h₁, g, d, tk, os⟩
  refine wpAny_bind (wpAny_field he₁ rfl (x := rawInt i) rfl ?_)
  show wpAny _ _ (field (.ref e) 4 >>= _) _ _ ⟨h₁, g, d, tk, os⟩
  refine wpAny_bind (wpAny_field he₁ rfl (x := .none) rfl ?_)
  show wpAny _ _ (mkInt i >>= _) _ _ ⟨h₁, g, d, tk, os⟩
  refine wpAny_bind (wpAny_mkInt ?_)
  show wpAny _ _ (setField (.ref e) 3 (rawInt ((i : Int) + 1)) >>= _) _ _ ⟨h₁, g, d, tk + 1, os⟩
  refine wpAny_bind (wpAny_setField_rec he₁ (by simp) fun h₂ he₂ hs₂ => ?_)
  replace hs₂ : Heap.SameBut e h₁ h₂ := hs₂
  replace he₂ : IsEnum h₂ e it ((i : Int) + 1) old := he₂
  show wpAny _ _ (setField (.ref e) 4 .none >>= _) _ _ ⟨h₂, g, d, tk + 1, os⟩
  refine wpAny_bind (wpAny_setField_rec he₂ (by simp) fun h₃ he₃ hs₃ => ?_)
  replace hs₃ : Heap.SameBut e h₂ h₃ := hs₃
  replace he₃ : IsEnum h₃ e it ((i : Int) + 1) old := he₃
  show wpAny _ _ (newTuple [.int i tk, x] >>= _) _ _ ⟨h₃, g, d, tk + 1, os⟩
  refine wpAny_bind (wpAny_newTuple ?_)
  have he₄ : IsEnum (h₃.push { cls := .type "tuple", data := .seq #[.int i tk, x] }) e it ((i : Int) + 1) old := Heap.get?_push_of_some _ he₃
  generalize hh₄ : h₃.push { cls := .type "tuple", data := .seq #[.int i tk, x] } = h₄ at he₄
  have hsz : h₃.objs.size = hp.objs.size := by rw [hs₃.1, hs₂.1, hs₁.1]
  have hel : e < hp.objs.size := Heap.lt_size he
  have ht₄ : h₄.get? hp.objs.size = some { cls := .type "tuple", data := .seq #[.int i tk, x] } := by rw [← hh₄, ← hsz]; exact Heap.get?_push_size _ rfl
  have hz₄ : h₄.objs.size = hp.objs.size + 1 := by rw [← hh₄, Heap.size_push, hsz]
  have hk₄ : ∀ b o, b ≠ e → b ≠ it → hp.get? b = some o → h₄.get? b = some o := fun b o hbe hbi hb => by
    rw [← hh₄]; exact Heap.get?_push_of_some _ (hs₃.extBut b o hbe (hs₂.extBut b o hbe (hs₁.extBut b o hbi hb)))
  have hit₄ : h₄.IsTupleIter it l (i + 1) := by
    rw [← hh₄]; obtain ⟨o, ho, r⟩ := (hit₁.extBut hs₂.extBut (Ne.symm hne)).extBut hs₃.extBut (Ne.symm hne); exact ⟨o, Heap.get?_push_of_some _ ho, r⟩
  show wpAny _ _ (Builtin.SmallTypes.ownedTupleIsFree (.ref e) >>= _) _ _ ⟨h₄, g, d, tk + 1, os⟩
  rw [hsz]
  clear hh₄ he₃ hs₃ he₂ hs₂ he₁ hs₁ hit₁ hsz h₃ h₂ h₁
  refine wpAny_bind ?_
  · unfold Builtin.SmallTypes.ownedTupleIsFree
    refine wpAny_bind (wpAny_field he₄ rfl (x := .none) rfl (wpAny_pure ?_))
    simp only [if_true]
    refine wpAny_bind (wpAny_rule ?_)
    refine wpAny_bind (wpAny_field he₄ rfl (x := old) rfl ?_)
    refine wpAny_bind (wpAny_setField_rec he₄ (by simp) fun h₅ he₅ hs₅ => ?_)
    replace hs₅ : Heap.SameBut e h₄ h₅ := hs₅
    replace he₅ : IsEnum h₅ e it ((i : Int) + 1) x := he₅
    show wpAny _ _ (Builtin.SmallTypes.ownedTupleHandOut (.ref e) (.ref hp.objs.size) >>= _) _ _ ⟨h₅, g, d, tk + 1, os⟩
    refine wpAny_bind ?_
    · unfold Builtin.SmallTypes.ownedTupleHandOut
      refine wpAny_bind (wpAny_setField_rec he₅ (by simp) fun h₆ he₆ hs₆ => ?_)
      replace hs₆ : Heap.SameBut e h₅ h₆ := hs₆
      replace he₆ : IsEnumOut h₆ e it ((i : Int) + 1) x hp.objs.size := he₆
      refine wpAny_setField_rec he₆ (by simp) fun h₇ he₇ hs₇ => ?_
      replace hs₇ : Heap.SameBut e h₆ h₇ := hs₇
      replace he₇ : IsEnumOut h₇ e it ((i : Int) + 1) x hp.objs.size := he₇
      refine wpAny_bind (wpAny_letGo (wpAny_pure ⟨_, rfl, hQ h₇ he₇ ?_ ?_ ?_ ?_⟩))
      · exact ((hit₄.extBut hs₅.extBut (Ne.symm hne)).extBut hs₆.extBut (Ne.symm hne)).extBut hs₇.extBut (Ne.symm hne)
      · exact hs₇.extBut _ _ (Nat.ne_of_gt hel) (hs₆.extBut _ _ (Nat.ne_of_gt hel) (hs₅.extBut _ _ (Nat.ne_of_gt hel) ht₄))
      · rw [hs₇.1, hs₆.1, hs₅.1, hz₄]
      · exact fun b o hbe hbi hb => hs₇.extBut b o hbe (hs₆.extBut b o hbe (hs₅.extBut b o hbe (hk₄ b o hbe hbi hb)))

theorem wpAny_pyNext_enum_itemT {e it l : Addr} {i : Nat} {items : Array Value} {x old : Value} {Q : Option Value → Shared → Prop}
    (he : IsEnum s.heap e it i old) (hit : s.heap.IsTupleIter it l i) (hl : s.heap.IsTuple l items) (hx : items[i]? = some x) (hne : e ≠ it)
    (hQ : ∀ h', IsEnumOut h' e it ((i : Int) + 1) x s.heap.objs.size → h'.IsTupleIter it l (i + 1) →
      h'.get? s.heap.objs.size = some { cls := .type "tuple", data := .seq #[.int i s.toks, x] } → h'.objs.size = s.heap.objs.size + 1 →
      (∀ b o, b ≠ e → b ≠ it → s.heap.get? b = some o → h'.get? b = some o) → Q (some (.ref s.heap.objs.size)) { s with heap := h', toks := s.toks + 1 }) :
    wpAny (model prog w) A (pyNext (.ref e)) Q E s := by
  have hT : s.TypeIs (.ref e) "enumerate" := ⟨_, he, rfl⟩
  unfold pyNext
  exact wpAny_bind (wpAny_attempt (wpAny_callSpecial?_slot (name := Str.ofString "__next__") hT F.slot_enumerate_next
    (wpAny_call_entry F.slot_enumerate_next hT F.entry_enumerate_next
      (enumerate_next_itemT he hit hl hx hne fun h' a b c d k => wpAny_pure (hQ h' a b c d k)) (F.args_enumerate_next_1 _))))

theorem wpAny_pyNext_enum_endT {e it l : Addr} {i : Nat} {items : Array Value} {old : Value} {Q : Option Value → Shared → Prop} (hh : A.handled = none)
    (he : IsEnum s.heap e it i old) (hit : s.heap.IsTupleIter it l i) (hl : s.heap.IsTuple l items) (hx : items[i]? = none)
    (hQ : ∀ h', Heap.ExtBut it s.heap h' → Q none { s with heap := h' }) : wpAny (model prog w) A (pyNext (.ref e)) Q E s := by
  have hT : s.TypeIs (.ref e) "enumerate" := ⟨_, he, rfl⟩
  unfold pyNext
  refine wpAny_bind (wpAny_attempt (wpAny_callSpecial?_slot (name := Str.ofString "__next__") hT F.slot_enumerate_next
    (wpAny_call_entry F.slot_enumerate_next hT F.entry_enumerate_next ?_ (F.args_enumerate_next_1 _))))
  show wpAny _ _ (field (.ref e) 2 >>= _) _ _ _
  refine wpAny_bind (wpAny_field he rfl (x := .ref it) rfl ?_)
  refine wpAny_bind (RZ.nextOf_tuple_end hh hit hl hx fun h' x he' hx' => ?_)
  obtain ⟨o, ho, hc⟩ := hx'
  refine wpAny_bind (wpAny_isInstance (T := "StopIteration") (b := true) ⟨o, ho, hc⟩ isSubtype_stop ?_)
  exact wpAny_pure (hQ _ he')
theorem call_enumerate_tuple {l : Addr} {items : Array Value} {Q : Value → Shared → Prop} (hL : s.heap.IsTuple l items)
    (h : ∀ h', IsEnum h' (s.heap.objs.size + 1) s.heap.objs.size 0 .none → h'.IsTupleIter s.heap.objs.size l 0 → h'.objs.size = s.heap.objs.size + 2 →
      (∀ b o, s.heap.get? b = some o → h'.get? b = some o) → Q (.ref (s.heap.objs.size + 1)) { s with heap := h' }) :
    wpAny (model prog w) A (call (.type "enumerate") [.ref l]) Q E s := by
  obtain ⟨⟨c, dct, dt, sl⟩, hl, hc, n, hd⟩ := hL
  replace hc : c = .type "tuple" := hc
  replace hd : dt = .seq items n := hd
  subst hc hd
  refine callType_new F.called_enumerate (by decide) (F.typeCall_enumerate_1 _) (F.newCall_enumerate_1 _) (fun obj => F.args_object_init_2 obj _) F.entry_enumerate_new
    (meets_enumerate_newT l items n dct sl) ⟨hl, ?_⟩
  have hz : (s.heap.push { cls := .type "tuple_iterator", data := .fields #[.ref l, .int 0 0] }).objs.size = s.heap.objs.size + 1 := Heap.size_push ..
  show _ ∧ _
  rw [hz]
  have he : IsEnum ((s.heap.push { cls := .type "tuple_iterator", data := .fields #[.ref l, .int 0 0] }).push
      { cls := .type "enumerate", data := .fields #[.none, .bool false, .ref s.heap.objs.size, rawInt 0, .none, .none] }) (s.heap.objs.size + 1) s.heap.objs.size 0 .none := by
    have := Heap.get?_push_size (s.heap.push { cls := .type "tuple_iterator", data := .fields #[.ref l, .int 0 0] })
      (o := { cls := .type "enumerate", data := .fields #[.none, .bool false, .ref s.heap.objs.size, rawInt 0, .none, .none] }) rfl
    rw [hz] at this; exact this
  refine ⟨⟨_, he, rfl⟩, h _ he ⟨_, Heap.get?_push_of_some _ (Heap.get?_push_size _ rfl), rfl, rfl⟩ (by rw [Heap.size_push, hz]) fun b o x => Heap.get?_push_of_some _ (Heap.get?_push_of_some _ x)⟩

end
end PySem
namespace L2
open PySem PySem.Spec PyProof.Rows
/-- the tuple at a as it stands at each turn, each item in a new pair -/
def IteT (K : PySem.W.Frag) (a : Addr) : It :=
  ⟨fun i H => ∃ (xs : List V) (x : V), SqT K H a xs ∧ xs[i]? = some x, fun i H v H' => ∃ T x, v = .ref T ∧ H T = none ∧ H' = upd H T (.tup [.int (i : Nat), x]) ∧ ∀ xs, SqT K H a xs → xs[i]? = some x, fun i H => ∃ xs : List V, SqT K H a xs ∧ xs.length ≤ i⟩
theorem turn_enumT {P : Program} {w : World} {K : PySem.W.Frag} {elts : List Expr} {kk : Nat} {tpos : Pos} (a e it : Addr) :
    Turn P w K (.Tuple elts kk tpos) (IteT K a) [e, it] e (fun i h => (∃ old, IsEnum h e it ((i : Nat) : Int) old) ∧ h.IsTupleIter it a i ∧ e ≠ it) where
  mem := by simp
  obj := fun i h st b hb => by
    obtain ⟨⟨old, he⟩, ⟨o, ho, hc, hd⟩, _⟩ := st
    have e' : b = e ∨ b = it := by simpa using hb
    rcases e' with z | z
    · rw [z]; exact ⟨_, he, fun v q => nomatch q⟩
    · rw [z]; exact ⟨o, ho, fun v q => by rw [hd] at q; cases q⟩
  keep := fun i h h' st k => let ⟨⟨old, he⟩, hi, hne⟩ := st; ⟨⟨old, k e (by simp) _ he⟩, hi.at fun o q => k it (by simp) o q, hne⟩
  item := by
    intro X hP hw hK hc i pins s σ H E I hf st hg
    subst hP hw hK
    obtain ⟨⟨old, he⟩, hit, hne⟩ := st
    obtain ⟨xs, x, hq, hx⟩ := hg
    obtain ⟨its, rv, p, hz⟩ := I.tuple hq
    obtain ⟨u, hu, ru⟩ := rv.get hx
    have hel : e < s.heap.objs.size := Heap.lt_size he
    have hil : it < s.heap.objs.size := by obtain ⟨_, q, _⟩ := hit; exact Heap.lt_size q
    refine wpAny_pyNext_enum_itemT he hit p (x := u) (by simpa using hu) hne fun h' ho hit' hT hsz hk => ?_
    refine ⟨_, rfl, wpAny_letOwnedTupleGo_enum (s := { s with heap := h', toks := s.toks + 1 }) ho fun h'' he' sb => ?_⟩
    have hT2 : h''.get? s.heap.objs.size = some { cls := .type "tuple", data := .seq #[.int i s.toks, u] } := (sb.2 _ (Nat.ne_of_gt hel)).trans hT
    have new : ObjOk X.prog X.w (upd H s.heap.objs.size (.tup [.int (i : Nat), x])) h'' s.heap.objs.size (.tup [.int (i : Nat), x]) :=
      ⟨by show 2 ≤ sizeLine; decide, [.int i s.toks, u], .cons ⟨_, rfl⟩ (.cons ru .nil), ⟨_, hT2, rfl, _, rfl⟩⟩
    have I1 : Inv X pins σ (upd H s.heap.objs.size (.tup [.int (i : Nat), x])) { s with heap := h'', toks := s.toks + 1 } :=
      I.turnedNew (ch := [e, it]) (fun b ob hb q => (sb.2 b (fun z => hb (by simp [z]))).trans (hk b ob (fun z => hb (by simp [z])) (fun z => hb (by simp [z])) q)) hf (Nat.le_refl _) new
    refine ⟨.ref s.heap.objs.size, _, I1, rfl, ⟨_, x, rfl, I.hok.fresh (Nat.le_refl _), rfl, fun ys hy => by rw [I.tuple_inj hy hq]; exact hx⟩, ⟨⟨u, ?_⟩, hit'.at fun o q => (sb.2 it (Ne.symm hne)).trans q, hne⟩, fun b hb => ?_⟩
    · have e1 : ((i + 1 : Nat) : Int) = (i : Int) + 1 := by omega
      rw [e1]; exact he'
    · have hb' : b < s.heap.objs.size := by
        have e' : b = e ∨ b = it := by simpa using hb
        rcases e' with z | z
        · rw [z]; exact hel
        · rw [z]; exact hil
      rw [upd_ne (Nat.ne_of_lt hb')]
      exact (hf b hb).1
  done := by
    intro X hP hw hK hc i pins s σ H E I hf st hg
    subst hP hw hK
    obtain ⟨⟨old, he⟩, hit, hne⟩ := st
    obtain ⟨xs, hq, hx⟩ := hg
    obtain ⟨its, rv, p, hz⟩ := I.tuple hq
    obtain ⟨f0, f1, f2, f3, f4, f5⟩ := hf it (by simp)
    have hl := rv.length
    exact wpAny_pyNext_enum_endT (I.ok.hd hc) he hit p (by simp; omega) fun h' eb => ⟨rfl, I.turned (t' := s.toks) (fun b o hb q => eb b o hb q) f0 f1 f3 f4 f5⟩
  self := fun A i s Q E st h => let ⟨⟨_, he⟩, _⟩ := st; wpAny_pyIter_enum he h
def iEnumT (K : PySem.W.Frag) (ta : TA) : TI := fun σ H R => ta σ H fun vs H1 => ∃ a xs, vs = [.ref a] ∧ SqT K H1 a xs ∧ R (IteT K a) H1
theorem pi_enumT {X : Cx} {e : Expr} {ta : TA} {p pos tpos : Pos} {elts : List Expr} {kk : Nat} (hg : Gl X "enumerate") (hm : X.mg "enumerate" = none) (ha : PA X [e] ta) (hs : starEach [e] X.env = [(false, eval e X.env)] := by rfl) :
    PI X (.Tuple elts kk tpos) (.Call (.Name "enumerate" p) [e] [] pos) (iEnumT X.K ta) := by
  refine ⟨fun pins s σ H R I h => ?_⟩
  refine Call_ (ld_blt I hg hm boot_enumerate (PyProof.Rows.callWith_type1 (thn (ha.run pos pins s σ H _ I h) fun us s1 ⟨vs, H1, I1, r1, q1⟩ => ?_) hs rfl))
  obtain ⟨a, xs, ex, hq, q⟩ := q1
  subst ex
  cases r1 with
  | cons r rr =>
    cases rr
    cases r
    obtain ⟨its, rv, p', hz⟩ := I1.tuple hq
    refine call_enumerate_tuple p' fun h' he hit hsz hk => wpAny_pyIter_enum he ?_
    have I2 : Inv X pins σ H1 { s1 with heap := h' } := I1.kept (t' := s1.toks) hk
    refine ⟨s1.heap.objs.size + 1, [s1.heap.objs.size + 1, s1.heap.objs.size], _, _, H1, rfl, I2, turn_enumT a (s1.heap.objs.size + 1) s1.heap.objs.size, ⟨⟨.none, he⟩, hit, Nat.succ_ne_self _⟩, fun b hb => ?_, q⟩
    have e' : b = s1.heap.objs.size + 1 ∨ b = s1.heap.objs.size := by simpa using hb
    have hle : s1.heap.objs.size ≤ b := by
      rcases e' with z | z
      · rw [z]; exact Nat.le_add_right _ _
      · rw [z]; exact Nat.le_refl _
    exact I1.fpOk hle (I1.hok.fresh hle)
end L2

end
section
set_option Elab.async false
set_option linter.all false
set_option maxRecDepth 100000
set_option maxHeartbeats 2000000
/-! EwR: slices, tuple times one, enumerate of tuples, several names at once. -/
namespace L2
open PySem PySem.Spec PyProof.Rows
theorem tuple_mulOne (l : Addr) (items : Array Value) (n : Nat) (u : Tok) :
    Meets (Builtin.«tuple.__mul__» ⟨[.ref l, .int 1 u], []⟩) (fun _ R s => (∃ dd sl, s.heap.get? l = some { cls := .type "tuple", dict := dd, data := .seq items n, slots := sl }) ∧ R (.ok (.ret (.ref l))) s) :=
  .of_wp fun prog w A R s h => by
    obtain ⟨hp, g, d, tk, os⟩ := s
    obtain ⟨⟨dd, sl, hl⟩, h⟩ := h
    have f1 := AutoSeq1.idx_int
    have c0 : (decide ((1 : Int) < -(2 ^ 63)) || decide ((1 : Int) ≥ 2 ^ 63)) = false := by decide
    have c1 : (items.isEmpty || (1 : Int) == 1) = true := by rw [Bool.or_eq_true]; exact .inr rfl
    wp_walk using wpAny_loadPart' hl
    repeat (first
      | (refine wpAny_ite_false (decide_eq_false (by rw [c0]; exact Bool.false_ne_true)) ?_; wp_walk using wpAny_loadPart' hl)
      | (refine wpAny_ite_true (decide_eq_true c1) ?_; wp_walk using wpAny_loadPart' hl))
    all_goals exact ⟨_, rfl, h⟩
def rRepT1 (K : PySem.W.Frag) : R2 := fun x y H Q => ∃ l xs, x = .ref l ∧ y = .int 1 ∧ SqT K H l xs ∧ Q x H
section
variable {X : Cx}
theorem op_repT1 : OpR X (binaryOp .Mult) (rRepT1 X.K) := by
  intro pins s σ H x y v u Q I rx ry h
  obtain ⟨l, xs, rfl, rfl, hT, q⟩ := h
  cases rx
  obtain ⟨t, rfl⟩ := ry
  obtain ⟨its, r, ⟨⟨cls, dd, data, sl⟩, ho, hc, n, hd⟩, hs⟩ := I.tuple hT
  simp only at hc hd
  subst hc hd
  exact wpAny_binaryOp_repeat_ref (T := "tuple") (U := "int") (by decide) ⟨_, ho, rfl⟩ (fun s' => typeIs_int s' 1 t) noFill_tuple_mul F.fills_int_mul F.slot_int_rmul repeat_tuple F.slot_int_index.lookup
    (call_meets F.slot_int_rmul (typeIs_int s 1 t) F.entry_int_rmul (F.args_int_rmul_2 _ _) (int_rmul_tuple 1 t l its.toArray n dd sl)
      ⟨ho, rfl, ⟨_, ho, rfl⟩, call_meets F.slot_tuple_mul ⟨_, ho, rfl⟩ F.entry_tuple_mul (F.args_tuple_mul_2 _ _) (tuple_mulOne l its.toArray n t) ⟨⟨dd, sl, ho⟩, ⟨.ref l, H, I, rfl, q⟩⟩⟩)
def rRepA (K : PySem.W.Frag) : R2 := fun x y H Q => rRepT K x y H Q ∨ rRepT1 K x y H Q
theorem k_repA {K : PySem.W.Frag} (hK : X.K = K) : OpR X (binaryOp .Mult) (rRepA K) := hK ▸ op_repT.or op_repT1
/-- x[a:b], a list, a tuple, a text -/
def rSlAll (K : PySem.W.Frag) : V → Option Int → Option Int → Hp → VK → Prop := fun x lo hi H Q => rSlL K x lo hi H Q ∨ (fun x lo hi H Q => rSlA K x lo hi H Q ∨ rSlS x lo hi H Q) x lo hi H Q
theorem k_sl {K : PySem.W.Frag} (hK : X.K = K) : SlR X (rSlAll K) := hK ▸ sl_list.or (sl_tupA.or sl_str)
theorem k_ienumT {K : PySem.W.Frag} (hK : X.K = K) {e : Expr} {t : TA} {p pos tpos : Pos} {elts : List Expr} {kk : Nat} (hm : X.mg "enumerate" = none) (ha : PA X [e] t) (hg : Gl X "enumerate" := by rfl) (hs : starEach [e] X.env = [(false, eval e X.env)] := by rfl) :
    PI X (.Tuple elts kk tpos) (.Call (.Name "enumerate" p) [e] [] pos) (iEnumT K t) := hK ▸ pi_enumT hg hm ha hs
end
end L2
namespace Ew
open PySem PySem.Spec PyProof.Rows L2
def cutD {α : Type} (xs : List α) (lo hi : Option Int) : List α := (xs.drop (HT.sIx xs.length 0 lo)).take (HT.sIx xs.length xs.length hi - HT.sIx xs.length 0 lo)
section
variable {W : Wd} {Γ Γ' : Gam} {K : PySem.W.Frag} {T U A C P : Typ} {Ts Us : List Typ} {ds es : List PyData} {d : PyData} {ta : TA} {te tb : TE} {i j : Int} {N : Sx → Hp → Prop} {R : V → Hp → Prop} {Bk Ct : Sx → Hp → Prop} {tl th : TO} {lo hi : Option Int} {n m k : Nat}
def TyO (W : Wd) (Γ : Gam) (t : TO) (o : Option Int) : Prop := ∀ σ H, Cxt W H → EnvW W Γ σ H → ∀ Q : Option Int → Hp → Prop, (∀ H1, Ex W.B H H1 → Q o H1) → t σ H Q
theorem tyo_none : TyO W Γ tNoPart none := fun σ H c g Q q => q H (Ex.refl _ _)
theorem tyo_some (h : Ty W Γ te (dt K (.int i))) : TyO W Γ (tPart te) (some i) := fun σ H c g Q q => h σ H c g _ fun v H1 e hv => by
  cases hv
  exact ⟨i, rfl, q H1 e⟩
theorem RpA.drop' {M : Addr → Prop} {H : Hp} : ∀ {vs : List V} {ds : List PyData} (n : Nat), RpA M K H vs ds → RpA M K H (vs.drop n) (ds.drop n)
  | _, _, 0, h => h
  | _, _, _ + 1, .nil => .nil
  | _, _, n + 1, .cons _ r => RpA.drop' n r
theorem RpA.take' {M : Addr → Prop} {H : Hp} : ∀ {vs : List V} {ds : List PyData} (n : Nat), RpA M K H vs ds → RpA M K H (vs.take n) (ds.take n)
  | _, _, 0, _ => .nil
  | _, _, _ + 1, .nil => .nil
  | _, _, n + 1, .cons h r => .cons h (RpA.take' n r)
theorem RpA.cut {M : Addr → Prop} {H : Hp} {vs : List V} {ds : List PyData} (h : RpA M K H vs ds) (lo hi : Option Int) : RpA M K H (cutV vs lo hi) (cutD ds lo hi) := by
  unfold cutV cutD
  rw [h.length]
  exact (h.drop' _).take' _
theorem cut_whole {α : Type} {xs : List α} (h : HT.sIx xs.length 0 lo = 0 ∧ HT.sIx xs.length xs.length hi = xs.length) : cutD xs lo hi = xs := by
  unfold cutD
  rw [h.1, h.2, List.drop_zero, Nat.sub_zero, List.take_length]
theorem ty_slL (h : Ty W Γ te (dt K (.list ds))) (hl : TyO W Γ tl lo) (hh : TyO W Γ th hi) : Ty W Γ (tSl (rSlAll K) te tl th) (dt K (.list (cutD ds lo hi))) := fun σ H c g Q q =>
  h σ H c g _ fun v H1 e1 hv => hl σ H1 (c.up e1) (g.up e1.toW) _ fun H2 e2 => hh σ H2 (c.up (e1.trans e2)) (g.up (e1.trans e2).toW) _ fun H3 e3 => by
    have hv3 := Rp.up (e2.trans e3).toW hv
    cases hv3 with
    | lst h1 h2 h3 => exact .inl ⟨_, _, rfl, SqL.of h1, fun p hp => q _ _ ((e1.trans (e2.trans e3)).trans (Ex.new hp)) (.lst upd_same (c.nm ((e1.trans (e2.trans e3)).free hp)) (RpA.up (Ex.new (B := W.B) hp).toW (h3.cut lo hi)))⟩
theorem ty_slT (h : Ty W Γ te (dt K (.tuple ds))) (hl : TyO W Γ tl lo) (hh : TyO W Γ th hi) : Ty W Γ (tSl (rSlAll K) te tl th) (dt K (.tuple (cutD ds lo hi))) := fun σ H c g Q q =>
  h σ H c g _ fun v H1 e1 hv => hl σ H1 (c.up e1) (g.up e1.toW) _ fun H2 e2 => hh σ H2 (c.up (e1.trans e2)) (g.up (e1.trans e2).toW) _ fun H3 e3 => by
    have hv3 := Rp.up (e2.trans e3).toW hv
    have e13 := e1.trans (e2.trans e3)
    cases hv3 with
    | @tup a xs _ h1 h3 =>
      refine .inr (.inl ⟨_, _, rfl, h1, fun w => q _ _ e13 ?_, fun _ p hp => q _ _ (e13.trans (Ex.new hp)) (.tup (SqT.of upd_same) (RpA.up (Ex.new (B := W.B) hp).toW (h3.cut lo hi)))⟩)
      rw [h3.length] at w
      rw [cut_whole w]
      exact .tup h1 h3
theorem ty_slS {z : Str} (hz : z.length ≤ 1000000) (h : Ty W Γ te (dt K (.str z))) (hl : TyO W Γ tl lo) (hh : TyO W Γ th hi) : Ty W Γ (tSl (rSlAll K) te tl th) (dt K (.str (cutS z lo hi))) := fun σ H c g Q q =>
  h σ H c g _ fun v H1 e1 hv => hl σ H1 (c.up e1) (g.up e1.toW) _ fun H2 e2 => hh σ H2 (c.up (e1.trans e2)) (g.up (e1.trans e2).toW) _ fun H3 e3 => by
    have hv3 := Rp.up (e2.trans e3).toW hv
    have e13 := e1.trans (e2.trans e3)
    cases hv3 with
    | str => exact .inr (.inr ⟨z, rfl, sz_le hz, q _ _ e13 (.str _)⟩)
theorem opt_ixS {z : Str} {c : Nat} (hz : z.length ≤ 1000000) (e : atI z.cps.toList i = some c) : OpT W (rIx K) (dt K (.str z)) (dt K (.int i)) (dt K (.str ⟨#[c]⟩)) := fun u v H cx hu hv Q q => by
  cases hu
  cases hv
  exact .inr (.inr ⟨z, i, c, rfl, rfl, sz_le hz, e, q _ H (Ex.refl _ _) (.str _)⟩)
/-- tuple * int -/
theorem opt_repA (h0 : 1 ≤ j) (h1 : j ≤ 1000) (hn : ds ≠ []) (hz : ds.length ≤ 1000) : OpT W (rRepA K) (dt K (.tuple ds)) (dt K (.int j)) (dt K (.tuple (List.replicate j.toNat ds).flatten)) := fun u v H c hu hv Q q => by
  by_cases e : j = 1
  · subst e
    cases hv
    cases hu with
    | @tup a xs _ h2 h3 =>
      refine .inr ⟨a, xs, rfl, rfl, h2, q _ H (Ex.refl _ _) ?_⟩
      have e2 : (List.replicate (1 : Int).toNat ds).flatten = ds := by
        show (List.replicate 1 ds).flatten = ds
        simp
      rw [e2]
      exact .tup h2 h3
  · exact .inl (opt_repT (by omega) h1 hn hz u v H c hu hv Q q)
/-! ### enumerate of a tuple -/
theorem walk_enumT {a : Addr} {xs : List V} : Walk (IteT K a) xs.length (fun H => SqT K H a xs) (YPair (fun i => some (.int (i : Nat))) (fun i => xs[i]?)) := by
  refine ⟨fun i _ hi q => ⟨xs, xs[i], q, by simp⟩, fun _ q => ⟨xs, q, Nat.le_refl _⟩, fun i H v H' _ q y => ?_⟩
  obtain ⟨T, x, h1, h2, h3, h4⟩ := y
  exact ⟨T, _, x, h1, h2, h3, rfl, h4 xs q⟩
theorem tyi_enumT (h : TyA W Γ ta [tupT K Ts]) : TyI W Γ (iEnumT K ta) ((List.range Ts.length).map fun i => tupT K [dt K (.int (i : Nat)), Ts.getD i (isV .non)]) := fun σ H c g R q => h σ H c g _ fun us H1 e hu => by
  obtain ⟨v, rfl, a, xs, rfl, h2, h3⟩ := hu.one
  refine ⟨a, xs, rfl, h2, q _ H1 e ⟨fun H => SqT K H a xs, YPair (fun i => some (.int (i : Nat))) (fun i => xs[i]?), by rw [List.length_map, List.length_range, ← h3.length]; exact walk_enumT, h2, fun M' m => ⟨fun Ha Hb f z => f.sqT z, fun i Ha x Hb T hT f z y => ?_⟩⟩⟩
  obtain ⟨Tp, x0, y0, rfl, hn, rfl, ex, ey⟩ := y
  cases ex
  obtain ⟨hl, rfl⟩ := range_map_get hT
  obtain ⟨w, h4, h5⟩ := (m.tys h3).get (List.getElem?_eq_getElem hl)
  have ey' := h4.symm.trans ey
  cases ey'
  refine ⟨Ex.new hn, Tp, _, rfl, SqT.of upd_same, .int _, ?_, True.intro⟩
  show (Ts.getD i (isV .non)).p M' W.B y0 _
  rw [List.getD_eq_getElem?_getD, List.getElem?_eq_getElem hl]
  exact Typ.up _ (f.trans ((Ex.new (B := W.B) hn).toM m.sub)) h5
/-! ### several names at once -/
theorem tys_par (h : TyA W Γ ta [A, C]) : TyS W Γ (tPar n m ta) (nE W ((Γ.set n (some A)).set m (some C))) R Bk Ct := fun σ H c g D dn _ _ _ => h σ H c g _ fun us H1 e hu => by
  obtain ⟨v, w, rfl, h1, h2⟩ := hu.two
  exact ⟨v, w, rfl, dn _ H1 e.toW ⟨c.up e, EnvL.set h2 (EnvL.set h1 (g.up e.toW))⟩⟩
theorem tys_par3 (h : TyA W Γ ta [A, C, P]) : TyS W Γ (tPar3 n m k ta) (nE W (((Γ.set n (some A)).set m (some C)).set k (some P))) R Bk Ct := fun σ H c g D dn _ _ _ => h σ H c g _ fun us H1 e hu => by
  match us, hu with
  | [u, v, w], hu => exact ⟨u, v, w, rfl, dn _ H1 e.toW ⟨c.up e, EnvL.set hu.2.2.1 (EnvL.set hu.2.1 (EnvL.set hu.1 (g.up e.toW)))⟩⟩
/-- x = e or a, b = e by a target -/
theorem tys_asg {g : TG} (h : Ty W Γ te T) (hg : TyG W Γ g T Γ') : TyS W Γ (tAsg te g) (nE W Γ') R Bk Ct := fun σ H c e D dn _ _ _ => h σ H c e _ fun v H1 e1 hv =>
  hg v σ H1 (c.up e1) (e.up e1.toW) hv _ fun σ' H' e2 g' => dn σ' H' (e1.trans e2).toW ⟨c.up (e1.trans e2), g'⟩
/-- what just is known to be there is opened -/
theorem TyS.openX {α : Type} {A : α → Typ} {ts : TS} {n : Nat} (hn : Γ[n]? = some (some (exT A))) (h : ∀ x, TyS W (Γ.set n (some (A x))) ts N R Bk Ct) : TyS W Γ ts N R Bk Ct := fun σ H c g => by
  obtain ⟨v, h1, x, h2⟩ := g.get hn
  refine h x σ H c ?_
  have z := EnvL.set (T := A x) (i := n) h2 g
  have e : σ.set n (some v) = σ := by
    apply List.ext_getElem?
    intro i
    by_cases hi : n = i
    · subst hi
      rw [List.getElem?_set_self (List.getElem?_eq_some_iff.mp h1).1, h1]
    · rw [List.getElem?_set_ne hi]
  rw [e] at z
  exact z
theorem TyS.openG {φ : Prop} {ts : TS} {n : Nat} (hn : Γ[n]? = some (some (gd φ A))) (h : φ → TyS W (Γ.set n (some A)) ts N R Bk Ct) : TyS W Γ ts N R Bk Ct := fun σ H c g => by
  obtain ⟨v, h1, f, h2⟩ := g.get hn
  refine h f σ H c ?_
  have z := EnvL.set (T := A) (i := n) h2 g
  have e : σ.set n (some v) = σ := by
    apply List.ext_getElem?
    intro i
    by_cases hi : n = i
    · subst hi
      rw [List.getElem?_set_self (List.getElem?_eq_some_iff.mp h1).1, h1]
    · rw [List.getElem?_set_ne hi]
  rw [e] at z
  exact z
end
end Ew

end
section
set_option Elab.async false
set_option linter.all false
set_option maxRecDepth 100000
set_option maxHeartbeats 2000000
/-! EwP: dicts of one entry. -/
namespace Ew
open PySem PySem.Spec PyProof.Rows L2
theorem hu1 {a : Nat} (h : a + 64 < cLine) : a + 1 < cLine := by omega
def rLenA (K : PySem.W.Frag) : List V → Hp → VK → Prop := fun xs H Q => rLen K xs H Q ∨ ∃ a kvs, xs = [V.ref a] ∧ H a = some (.dK kvs) ∧ Q (.int (kvs.length : Nat)) H
section
variable {X : Cx} {e : Expr} {es : List Expr} {t : TA} {p pos : Pos}
theorem k_lenA {K : PySem.W.Frag} (hK : X.K = K) (m : X.mg "len" = none) (ha : PA X (e :: es) t) (hg : Gl X "len" := by rfl) (he : starEach (e :: es) X.env = (false, eval e X.env) :: starEach es X.env := by rfl) (hpl : (backTo pos (starEach es X.env)).any (·.1) = false := by rfl) :
    PE X (.Call (.Name "len" p) (e :: es) [] pos) (tCB (rLenA K) t) := hK ▸ pe_callB (CallR.or call_len call_lenD) hg m PySem.boot_len ha (by decide) (by decide) he hpl
end
section
variable {W : Wd} {Γ Γ' : Gam} {K : PySem.W.Frag} {As : List Typ} {P : Typ} {te tb : TE} {tt : TT} {i : Int} {x : Str} {kvs : List (PyData × PyData)}
theorem cbt_lenA (h : CbT W (rLen K) As P) : CbT W (rLenA K) As P := fun us H c hu Q q => .inl (h us H c hu Q q)
theorem RpK.length {M : Addr → Prop} {H : Hp} : ∀ {vs : List (Key × V)} {ds : List (PyData × PyData)}, RpK M K H vs ds → vs.length = ds.length
  | _, _, .nil => rfl
  | _, _, .cons _ r => by rw [List.length_cons, List.length_cons, RpK.length r]
theorem cbt_lenDict : CbT W (rLenA K) [dt K (.dict kvs)] (dt K (.int (kvs.length : Nat))) := fun us H c hu Q q => by
  obtain ⟨v, rfl, h⟩ := hu.one
  cases h with
  | dic h1 h2 => exact .inr ⟨_, _, rfl, h1, q _ H (Ex.refl _ _) (by rw [RpK.length h2]; exact .int _)⟩
/-- {x: i} -/
theorem ty_disp1 {tk tv : TE} (hk : Ty W Γ tk (dt K (.str x))) (hv : Ty W Γ tv (dt K (.int i))) : Ty W Γ (tDisp [(tk, tv)]) (dt K (.dict [(.str x, .int i)])) := fun σ H c g Q q => fun p hp => by
  have e0 : Ex W.B H (upd H p (.dK [])) := Ex.new hp
  refine hk σ _ (c.up e0) (g.up e0.toW) _ fun u H1 e1 h1 => hv σ H1 (c.up (e0.trans e1)) (g.up (e0.trans e1).toW) _ fun v H2 e2 h2 => ?_
  cases h1
  cases h2
  have hp2 : H2 p = some (.dK []) := e2.keepT (e1.keepT upd_same fun _ z => nomatch z) fun _ z => nomatch z
  refine ⟨hp2, [(.inr x, .int i)], rfl, (by show 1 ≤ 15; decide), q _ _ ((e0.trans (e1.trans e2)).mut hp) (.dic upd_same (.cons (.int i) .nil))⟩
end
end Ew

end
set_option Elab.async false
set_option linter.all false
set_option maxRecDepth 100000
set_option maxHeartbeats 400000
namespace Lk03
section
open PySem L2 Ew
local macro_rules | `(tactic| tm_at "side") => `(tactic| first | assumption | omega | decide | (exact sm_mul (by assumption) (by assumption)) | (exact ⟨by decide, by decide, by decide⟩) | (exact ⟨by decide, by decide⟩) | (exact .inl ⟨by decide, by decide⟩) | (exact .inr ⟨by decide, by decide⟩) | (simp only [List.length_cons, List.length_nil, List.length_map, List.length_range]; omega) | rfl)
local macro_rules | `(tactic| tm_at "op") => `(tactic| first
  | (with_reducible exact opt_add) | (with_reducible exact opt_sub) | (with_reducible exact opt_lt) | (with_reducible exact opt_le) | (with_reducible exact opt_gt) | (with_reducible exact opt_ge)
  | (with_reducible exact opt_eqI) | (with_reducible exact opt_neI) | (with_reducible exact opt_eqB) | (with_reducible exact opt_neB) | (with_reducible exact opt_eqS) | (with_reducible exact opt_neS)
  | (with_reducible exact opt_isN) | (with_reducible exact opt_notN) | (with_reducible exact opt_isB)
  | ((with_reducible refine' opt_mod ?s1); (case s1 => tm_at "side"))
  | ((with_reducible refine' opt_catT ?s1); (case s1 => tm_at "side"))
  | ((with_reducible refine' opt_catL ?s1); (case s1 => tm_at "side"))
  | (with_reducible exact opt_ix0)
  | ((with_reducible refine' opt_ixT ?s1); (case s1 => tm_at "side"))
  | ((with_reducible refine' opt_ixL ?s1); (case s1 => tm_at "side"))
  | ((with_reducible refine' opt_mul ?s1); (case s1 => tm_at "side"))
  | ((with_reducible refine' opt_mulW ?s1); (case s1 => tm_at "side"))
  | ((with_reducible refine' opt_div ?s1); (case s1 => tm_at "side"))
  | ((with_reducible refine' opt_pow ?s1); (case s1 => tm_at "side"))
  | ((with_reducible refine' opt_eqD ?s1 ?s2); (case s1 => tm_at "side"); (case s2 => tm_at "side"))
  | ((with_reducible refine' opt_neD ?s1 ?s2); (case s1 => tm_at "side"); (case s2 => tm_at "side")))
local macro_rules | `(tactic| tm_at "cb") => `(tactic| first
  | (with_reducible exact cbt_lenT) | (with_reducible exact cbt_lenL) | (with_reducible exact cbt_lenLT) | ((with_reducible refine' cbt_lenS ?s1); (case s1 => tm_at "side"))
  | ((with_reducible refine' cbt_isi ?s1); (case s1 => decide))
  | (with_reducible exact cbt_abs) | (with_reducible exact cbt_max2) | (with_reducible exact cbt_min2) | (with_reducible exact cbt_intI) | (with_reducible exact cbt_intB)
  | (with_reducible exact cbt_sum) | (with_reducible exact cbt_all) | (with_reducible exact cbt_tupL) | (with_reducible exact cbt_tupT))
local macro_rules | `(tactic| tm_at "tya") => `(tactic| first
  | (with_reducible exact tya_nil)
  | ((with_reducible refine' tya_cons ?h1 ?h2); (case h1 => tm_at "ty"); (case h2 => tm_at "tya")))
local macro_rules | `(tactic| tm_at "ty") => `(tactic| first
  | assumption
  | ((with_reducible refine' ty_var ?h1); (case h1 => rfl))
  | (with_reducible exact ty_int) | (with_reducible exact ty_bl) | (with_reducible exact ty_non) | (with_reducible exact ty_str) | (exact ty_int (K := by assumption)) | (exact ty_bl (K := by assumption)) | (exact ty_non (K := by assumption)) | (exact ty_str (K := by assumption)) | (with_reducible exact ty_c)
  | ((with_reducible refine' ty_isi2 ?h1 ?h2 ?h3); (case h1 => tm_at "ty"); (case h2 => decide); (case h3 => decide))
  | ((with_reducible refine' ty_cb ?h1 ?h2); (case h1 => tm_at "tya"); (case h2 => tm_at "cb"))
  | ((with_reducible refine' ty_op ?h1 ?h2 ?h3); (case h1 => tm_at "ty"); (case h2 => tm_at "ty"); (case h3 => tm_at "op"))
  | ((with_reducible refine' ty_un ?h1 ?h2); (case h1 => tm_at "ty"); (case h2 => exact unt_neg))
  | ((with_reducible refine' ty_andV ?h1 ?h2); (case h1 => tm_at "ty"); (case h2 => intro _; tm_at "ty"))
  | ((with_reducible refine' ty_orV ?h1 ?h2); (case h1 => tm_at "ty"); (case h2 => intro _; tm_at "ty"))
  | ((with_reducible refine' ty_notV ?h1); (case h1 => tm_at "ty"))
  | ((with_reducible refine' ty_chain ?h1 ?h2 ?h3 ?h4 ?h5); (case h1 => tm_at "ty"); (case h2 => tm_at "ty"); (case h3 => tm_at "op"); (case h4 => intro _; tm_at "ty"); (case h5 => tm_at "op")))
local macro_rules | `(tactic| tm_at "tt") => `(tactic| first
  | ((with_reducible refine' tt_B ?h1); (case h1 => tm_at "ty"))
  | ((with_reducible refine' tt_test ?h1); (case h1 => tm_at "ty"))
  | ((with_reducible refine' tt_notB ?h1); (case h1 => tm_at "tt"))
  | ((with_reducible refine' tt_andB ?h1 ?h2); (case h1 => tm_at "tt"); (case h2 => intro _; tm_at "tt"))
  | ((with_reducible refine' tt_orB ?h1 ?h2); (case h1 => tm_at "tt"); (case h2 => intro _; tm_at "tt")))
local macro_rules | `(tactic| tm_at "tyis") => `(tactic| (refine' Ty.is ?h1 ?h2; (case h1 => tm_at "ty"); (case h2 => rfl)))
local macro_rules | `(tactic| tm_at "ttis") => `(tactic| (refine' Tt.is ?h1 ?h2; (case h1 => tm_at "tt"); (case h2 => rfl)))
local macro_rules | `(tactic| tm_at "tyad") => `(tactic| (refine' TyA.data ?h1 ?h2; (case h1 => tm_at "tya"); (case h2 => rfl)))
/-! ### plain -/
def dotI (a b : List Int) : Int := ((a.zip b).map fun p => p.1 * p.2).sum
def applyI (t : List (List Int)) (l : List Int) : List Int := t.map fun r => dotI r l
def turnI (t : List (List Int)) (w : Nat) : List (List Int) := (List.range w).map fun at_ => t.map fun r => r.getD at_ 0
def addI (s : Int) (f l : List Int) : List Int := (f.zip l).map fun q => q.1 + s * q.2
def mixStep (f : List Int) (p : Int × List Int) : List Int := if p.1 ≠ 0 then addI p.1 f p.2 else f
def mixI (s : List Int) (t : List (List Int)) (w : Nat) : List Int := (s.zip t).foldl mixStep (List.replicate w 0)
def timesI (a b : List (List Int)) (w : Nat) : List (List Int) := a.map fun r => mixI r b w
def unitI (n : Nat) : List (List Int) := (List.range n).map fun i => (List.range n).map fun j => if i = j then 1 else 0
def top (i : Nat) : Stmt := PySem.Challenge.pw_everywrap_k03_lines_and_tables.main.body.getD i (.Pass ⟨0, 0, 0, 0⟩)
abbrev s_is_whole : Stmt := top 5
abbrev s_is_line_of : Stmt := top 8
abbrev s_is_line : Stmt := top 9
abbrev s_is_table : Stmt := top 10
abbrev s_check_table : Stmt := top 11
abbrev s_dotted : Stmt := top 12
abbrev s_applied_to : Stmt := top 13
abbrev s_turned_of : Stmt := top 14
abbrev s_mixed_of : Stmt := top 15
abbrev s_times_of : Stmt := top 16
abbrev s_unit_table : Stmt := top 17
abbrev s_dot : Stmt := top 18
abbrev s_applied : Stmt := top 19
abbrev s_times : Stmt := top 20
abbrev s_turned : Stmt := top 21
abbrev s_is_unit : Stmt := top 22
abbrev s_law_box : Stmt := top 24
abbrev s_law_take : Stmt := top 25
abbrev s_law_cell : Stmt := top 26
abbrev s_law_same : Stmt := top 27
abbrev s_law_entry : Stmt := top 28
abbrev s_law_line : Stmt := top 29
abbrev s_law_table : Stmt := top 30
abbrev s_law_dot : Stmt := top 31
abbrev s_law_applied : Stmt := top 32
abbrev s_law_columns : Stmt := top 33
abbrev s_law_times : Stmt := top 34
abbrev s_law_still : Stmt := top 35
abbrev s_law_call : Stmt := top 36
abbrev s_law_unit : Stmt := top 37
abbrev s_law_units_right : Stmt := top 38
abbrev s_law_refused_right : Stmt := top 39
abbrev s_law_scene_right : Stmt := top 40
abbrev s_law : Stmt := top 41
theorem sc_is_whole : FnScope ["value"] ["value"] (defScope s_is_whole) := ⟨rfl, rfl, rfl, by decide +kernel, rfl, by decide +kernel, by decide +kernel⟩
theorem sc_is_line_of : FnScope ["value", "width", "item"] ["value", "width"] (defScope s_is_line_of) := ⟨rfl, rfl, rfl, by decide +kernel, rfl, by decide +kernel, by decide +kernel⟩
theorem sc_is_line : FnScope ["value"] ["value"] (defScope s_is_line) := ⟨rfl, rfl, rfl, by decide +kernel, rfl, by decide +kernel, by decide +kernel⟩
theorem sc_is_table : FnScope ["value", "line"] ["value"] (defScope s_is_table) := ⟨rfl, rfl, rfl, by decide +kernel, rfl, by decide +kernel, by decide +kernel⟩
theorem sc_check_table : FnScope ["table"] ["table"] (defScope s_check_table) := ⟨rfl, rfl, rfl, by decide +kernel, rfl, by decide +kernel, by decide +kernel⟩
theorem sc_dotted : FnScope ["one", "other", "here", "there"] ["one", "other"] (defScope s_dotted) := ⟨rfl, rfl, rfl, by decide +kernel, rfl, by decide +kernel, by decide +kernel⟩
theorem sc_applied_to : FnScope ["table", "line", "row"] ["table", "line"] (defScope s_applied_to) := ⟨rfl, rfl, rfl, by decide +kernel, rfl, by decide +kernel, by decide +kernel⟩
theorem sc_turned_of : FnScope ["table", "width", "line", "at"] ["table", "width"] (defScope s_turned_of) := ⟨rfl, rfl, rfl, by decide +kernel, rfl, by decide +kernel, by decide +kernel⟩
theorem sc_mixed_of : FnScope ["shares", "table", "width", "found", "share", "line", "here", "there"] ["shares", "table", "width"] (defScope s_mixed_of) := ⟨rfl, rfl, rfl, by decide +kernel, rfl, by decide +kernel, by decide +kernel⟩
theorem sc_times_of : FnScope ["one", "other", "width", "line"] ["one", "other", "width"] (defScope s_times_of) := ⟨rfl, rfl, rfl, by decide +kernel, rfl, by decide +kernel, by decide +kernel⟩
theorem sc_unit_table : FnScope ["many", "place", "at"] ["many"] (defScope s_unit_table) := ⟨rfl, rfl, rfl, by decide +kernel, rfl, by decide +kernel, by decide +kernel⟩
theorem sc_dot : FnScope ["one", "other"] ["one", "other"] (defScope s_dot) := ⟨rfl, rfl, rfl, by decide +kernel, rfl, by decide +kernel, by decide +kernel⟩
theorem sc_applied : FnScope ["table", "line"] ["table", "line"] (defScope s_applied) := ⟨rfl, rfl, rfl, by decide +kernel, rfl, by decide +kernel, by decide +kernel⟩
theorem sc_times : FnScope ["one", "other"] ["one", "other"] (defScope s_times) := ⟨rfl, rfl, rfl, by decide +kernel, rfl, by decide +kernel, by decide +kernel⟩
theorem sc_turned : FnScope ["table"] ["table"] (defScope s_turned) := ⟨rfl, rfl, rfl, by decide +kernel, rfl, by decide +kernel, by decide +kernel⟩
theorem sc_is_unit : FnScope ["table"] ["table"] (defScope s_is_unit) := ⟨rfl, rfl, rfl, by decide +kernel, rfl, by decide +kernel, by decide +kernel⟩
theorem sc_law_box : FnScope ["great"] ["great"] (defScope s_law_box) := ⟨rfl, rfl, rfl, by decide +kernel, rfl, by decide +kernel, by decide +kernel⟩
theorem sc_law_take : FnScope ["box", "many", "digit"] ["box", "many"] (defScope s_law_take) := ⟨rfl, rfl, rfl, by decide +kernel, rfl, by decide +kernel, by decide +kernel⟩
theorem sc_law_cell : FnScope ["script", "k"] ["script", "k"] (defScope s_law_cell) := ⟨rfl, rfl, rfl, by decide +kernel, rfl, by decide +kernel, by decide +kernel⟩
theorem sc_law_same : FnScope ["told", "due", "same", "k"] ["told", "due"] (defScope s_law_same) := ⟨rfl, rfl, rfl, by decide +kernel, rfl, by decide +kernel, by decide +kernel⟩
theorem sc_law_entry : FnScope ["box"] ["box"] (defScope s_law_entry) := ⟨rfl, rfl, rfl, by decide +kernel, rfl, by decide +kernel, by decide +kernel⟩
theorem sc_law_line : FnScope ["box", "width", "k"] ["box", "width"] (defScope s_law_line) := ⟨rfl, rfl, rfl, by decide +kernel, rfl, by decide +kernel, by decide +kernel⟩
theorem sc_law_table : FnScope ["box", "height", "width", "k"] ["box", "height", "width"] (defScope s_law_table) := ⟨rfl, rfl, rfl, by decide +kernel, rfl, by decide +kernel, by decide +kernel⟩
theorem sc_law_dot : FnScope ["one", "other", "total", "a", "b"] ["one", "other"] (defScope s_law_dot) := ⟨rfl, rfl, rfl, by decide +kernel, rfl, by decide +kernel, by decide +kernel⟩
theorem sc_law_applied : FnScope ["table", "line", "row"] ["table", "line"] (defScope s_law_applied) := ⟨rfl, rfl, rfl, by decide +kernel, rfl, by decide +kernel, by decide +kernel⟩
theorem sc_law_columns : FnScope ["table", "row", "k"] ["table"] (defScope s_law_columns) := ⟨rfl, rfl, rfl, by decide +kernel, rfl, by decide +kernel, by decide +kernel⟩
theorem sc_law_times : FnScope ["one", "other", "column", "row"] ["one", "other"] (defScope s_law_times) := ⟨rfl, rfl, rfl, by decide +kernel, rfl, by decide +kernel, by decide +kernel⟩
theorem sc_law_still : FnScope ["told", "due", "key", "k"] ["told", "due"] (defScope s_law_still) := ⟨rfl, rfl, rfl, by decide +kernel, rfl, by decide +kernel, by decide +kernel⟩
theorem sc_law_call : FnScope ["which", "a", "named", "e"] ["which", "a", "named"] (defScope s_law_call) := ⟨rfl, rfl, rfl, by decide +kernel, rfl, by decide +kernel, by decide +kernel⟩
theorem sc_law_unit : FnScope ["many", "k", "at"] ["many"] (defScope s_law_unit) := ⟨rfl, rfl, rfl, by decide +kernel, rfl, by decide +kernel, by decide +kernel⟩
theorem sc_law_units_right : FnScope ["box", "named", "many", "unit", "at", "to", "bent", "l", "item", "k", "row", "tables", "table"] ["box", "named"] (defScope s_law_units_right) := ⟨rfl, rfl, rfl, by decide +kernel, rfl, by decide +kernel, by decide +kernel⟩
theorem sc_law_refused_right : FnScope ["box", "table", "line", "named", "width", "bad", "wrong", "row", "no_line", "far", "rows", "which", "args", "due", "told"] ["box", "table", "line", "named"] (defScope s_law_refused_right) := ⟨rfl, rfl, rfl, by decide +kernel, rfl, by decide +kernel, by decide +kernel⟩
theorem sc_law_scene_right : FnScope ["box", "named", "great", "height", "width", "depth", "one", "other", "line", "columns", "given", "small", "k", "behind", "due", "item", "long", "first", "second"] ["box", "named"] (defScope s_law_scene_right) := ⟨rfl, rfl, rfl, by decide +kernel, rfl, by decide +kernel, by decide +kernel⟩
theorem sc_law : FnScope ["script", "k", "box", "named"] ["script"] (defScope s_law) := ⟨rfl, rfl, rfl, by decide +kernel, rfl, by decide +kernel, by decide +kernel⟩
structure Tx (P : Program) (K : PySem.W.Frag) (mg : Str → Option Value) where
  a_is_whole : Addr
  f_is_whole : FuncData
  F_is_whole : Fun K "is_whole" "is_whole" s_is_whole a_is_whole f_is_whole
  D_is_whole : Defn K mg "is_whole" a_is_whole f_is_whole ["value"]
  a_is_line_of : Addr
  f_is_line_of : FuncData
  F_is_line_of : Fun K "is_line_of" "is_line_of" s_is_line_of a_is_line_of f_is_line_of
  D_is_line_of : Defn K mg "is_line_of" a_is_line_of f_is_line_of ["value", "width"]
  a_is_line : Addr
  f_is_line : FuncData
  F_is_line : Fun K "is_line" "is_line" s_is_line a_is_line f_is_line
  D_is_line : Defn K mg "is_line" a_is_line f_is_line ["value"]
  a_is_table : Addr
  f_is_table : FuncData
  F_is_table : Fun K "is_table" "is_table" s_is_table a_is_table f_is_table
  D_is_table : Defn K mg "is_table" a_is_table f_is_table ["value"]
  a_check_table : Addr
  f_check_table : FuncData
  F_check_table : Fun K "check_table" "check_table" s_check_table a_check_table f_check_table
  D_check_table : Defn K mg "check_table" a_check_table f_check_table ["table"]
  a_dotted : Addr
  f_dotted : FuncData
  F_dotted : Fun K "dotted" "dotted" s_dotted a_dotted f_dotted
  D_dotted : Defn K mg "dotted" a_dotted f_dotted ["one", "other"]
  a_applied_to : Addr
  f_applied_to : FuncData
  F_applied_to : Fun K "applied_to" "applied_to" s_applied_to a_applied_to f_applied_to
  D_applied_to : Defn K mg "applied_to" a_applied_to f_applied_to ["table", "line"]
  a_turned_of : Addr
  f_turned_of : FuncData
  F_turned_of : Fun K "turned_of" "turned_of" s_turned_of a_turned_of f_turned_of
  D_turned_of : Defn K mg "turned_of" a_turned_of f_turned_of ["table", "width"]
  a_mixed_of : Addr
  f_mixed_of : FuncData
  F_mixed_of : Fun K "mixed_of" "mixed_of" s_mixed_of a_mixed_of f_mixed_of
  D_mixed_of : Defn K mg "mixed_of" a_mixed_of f_mixed_of ["shares", "table", "width"]
  a_times_of : Addr
  f_times_of : FuncData
  F_times_of : Fun K "times_of" "times_of" s_times_of a_times_of f_times_of
  D_times_of : Defn K mg "times_of" a_times_of f_times_of ["one", "other", "width"]
  a_unit_table : Addr
  f_unit_table : FuncData
  F_unit_table : Fun K "unit_table" "unit_table" s_unit_table a_unit_table f_unit_table
  D_unit_table : Defn K mg "unit_table" a_unit_table f_unit_table ["many"]
  a_dot : Addr
  f_dot : FuncData
  F_dot : Fun K "dot" "dot" s_dot a_dot f_dot
  D_dot : Defn K mg "dot" a_dot f_dot ["one", "other"]
  a_applied : Addr
  f_applied : FuncData
  F_applied : Fun K "applied" "applied" s_applied a_applied f_applied
  D_applied : Defn K mg "applied" a_applied f_applied ["table", "line"]
  a_times : Addr
  f_times : FuncData
  F_times : Fun K "times" "times" s_times a_times f_times
  D_times : Defn K mg "times" a_times f_times ["one", "other"]
  a_turned : Addr
  f_turned : FuncData
  F_turned : Fun K "turned" "turned" s_turned a_turned f_turned
  D_turned : Defn K mg "turned" a_turned f_turned ["table"]
  a_is_unit : Addr
  f_is_unit : FuncData
  F_is_unit : Fun K "is_unit" "is_unit" s_is_unit a_is_unit f_is_unit
  D_is_unit : Defn K mg "is_unit" a_is_unit f_is_unit ["table"]
  a_law_box : Addr
  f_law_box : FuncData
  F_law_box : Fun K "_law_box" "_law_box" s_law_box a_law_box f_law_box
  D_law_box : Defn K mg "_law_box" a_law_box f_law_box ["great"]
  a_law_take : Addr
  f_law_take : FuncData
  F_law_take : Fun K "_law_take" "_law_take" s_law_take a_law_take f_law_take
  D_law_take : Defn K mg "_law_take" a_law_take f_law_take ["box", "many"]
  a_law_cell : Addr
  f_law_cell : FuncData
  F_law_cell : Fun K "_law_cell" "_law_cell" s_law_cell a_law_cell f_law_cell
  D_law_cell : Defn K mg "_law_cell" a_law_cell f_law_cell ["script", "k"]
  a_law_same : Addr
  f_law_same : FuncData
  F_law_same : Fun K "_law_same" "_law_same" s_law_same a_law_same f_law_same
  D_law_same : Defn K mg "_law_same" a_law_same f_law_same ["told", "due"]
  a_law_entry : Addr
  f_law_entry : FuncData
  F_law_entry : Fun K "_law_entry" "_law_entry" s_law_entry a_law_entry f_law_entry
  D_law_entry : Defn K mg "_law_entry" a_law_entry f_law_entry ["box"]
  a_law_line : Addr
  f_law_line : FuncData
  F_law_line : Fun K "_law_line" "_law_line" s_law_line a_law_line f_law_line
  D_law_line : Defn K mg "_law_line" a_law_line f_law_line ["box", "width"]
  a_law_table : Addr
  f_law_table : FuncData
  F_law_table : Fun K "_law_table" "_law_table" s_law_table a_law_table f_law_table
  D_law_table : Defn K mg "_law_table" a_law_table f_law_table ["box", "height", "width"]
  a_law_dot : Addr
  f_law_dot : FuncData
  F_law_dot : Fun K "_law_dot" "_law_dot" s_law_dot a_law_dot f_law_dot
  D_law_dot : Defn K mg "_law_dot" a_law_dot f_law_dot ["one", "other"]
  a_law_applied : Addr
  f_law_applied : FuncData
  F_law_applied : Fun K "_law_applied" "_law_applied" s_law_applied a_law_applied f_law_applied
  D_law_applied : Defn K mg "_law_applied" a_law_applied f_law_applied ["table", "line"]
  a_law_columns : Addr
  f_law_columns : FuncData
  F_law_columns : Fun K "_law_columns" "_law_columns" s_law_columns a_law_columns f_law_columns
  D_law_columns : Defn K mg "_law_columns" a_law_columns f_law_columns ["table"]
  a_law_times : Addr
  f_law_times : FuncData
  F_law_times : Fun K "_law_times" "_law_times" s_law_times a_law_times f_law_times
  D_law_times : Defn K mg "_law_times" a_law_times f_law_times ["one", "other"]
  a_law_still : Addr
  f_law_still : FuncData
  F_law_still : Fun K "_law_still" "_law_still" s_law_still a_law_still f_law_still
  D_law_still : Defn K mg "_law_still" a_law_still f_law_still ["told", "due"]
  a_law_call : Addr
  f_law_call : FuncData
  F_law_call : Fun K "_law_call" "_law_call" s_law_call a_law_call f_law_call
  D_law_call : Defn K mg "_law_call" a_law_call f_law_call ["which", "a", "named"]
  a_law_unit : Addr
  f_law_unit : FuncData
  F_law_unit : Fun K "_law_unit" "_law_unit" s_law_unit a_law_unit f_law_unit
  D_law_unit : Defn K mg "_law_unit" a_law_unit f_law_unit ["many"]
  a_law_units_right : Addr
  f_law_units_right : FuncData
  F_law_units_right : Fun K "_law_units_right" "_law_units_right" s_law_units_right a_law_units_right f_law_units_right
  D_law_units_right : Defn K mg "_law_units_right" a_law_units_right f_law_units_right ["box", "named"]
  a_law_refused_right : Addr
  f_law_refused_right : FuncData
  F_law_refused_right : Fun K "_law_refused_right" "_law_refused_right" s_law_refused_right a_law_refused_right f_law_refused_right
  D_law_refused_right : Defn K mg "_law_refused_right" a_law_refused_right f_law_refused_right ["box", "table", "line", "named"]
  a_law_scene_right : Addr
  f_law_scene_right : FuncData
  F_law_scene_right : Fun K "_law_scene_right" "_law_scene_right" s_law_scene_right a_law_scene_right f_law_scene_right
  D_law_scene_right : Defn K mg "_law_scene_right" a_law_scene_right f_law_scene_right ["box", "named"]
  a_law : Addr
  f_law : FuncData
  F_law : Fun K "law" "law" s_law a_law f_law
  D_law : Defn K mg "law" a_law f_law ["script"]
  B_turned : KB K f_turned ["table"] ["table"] id id
  B_is_unit : KB K f_is_unit ["table"] ["table"] id id
  B_dot : KB K f_dot ["one", "other"] ["other", "one"] List.reverse List.reverse
  B_applied : KB K f_applied ["table", "line"] ["line", "table"] List.reverse List.reverse
  B_times : KB K f_times ["one", "other"] ["other", "one"] List.reverse List.reverse
  aW : Addr
  fW : Addr
  base : PySem.WrX.BaseTxt P K mg aW fW
  a_InvalidLine : Addr
  c_InvalidLine : PySem.WrX.ClsTxt K mg "InvalidLine" aW fW a_InvalidLine
  x_InvalidLine : XfC K a_InvalidLine
  a_InvalidTable : Addr
  c_InvalidTable : PySem.WrX.ClsTxt K mg "InvalidTable" aW fW a_InvalidTable
  x_InvalidTable : XfC K a_InvalidTable
  e_InvalidLine_InvalidLine : PySem.W.exmOne K (.ref a_InvalidLine) (.ref a_InvalidLine) = some true
  e_InvalidLine_InvalidTable : PySem.W.exmOne K (.ref a_InvalidLine) (.ref a_InvalidTable) = some false
  e_InvalidTable_InvalidLine : PySem.W.exmOne K (.ref a_InvalidTable) (.ref a_InvalidLine) = some false
  e_InvalidTable_InvalidTable : PySem.W.exmOne K (.ref a_InvalidTable) (.ref a_InvalidTable) = some true
  m_isinstance : mg "isinstance" = none
  m_int : mg "int" = none
  m_bool : mg "bool" = none
  m_str : mg "str" = none
  m_list : mg "list" = none
  m_tuple : mg "tuple" = none
  m_dict : mg "dict" = none
  m_len : mg "len" = none
  m_all : mg "all" = none
  m_sum : mg "sum" = none
  m_zip : mg "zip" = none
  m_range : mg "range" = none
  m_enumerate : mg "enumerate" = none
  m_abs : mg "abs" = none
  m_max : mg "max" = none
  m_min : mg "min" = none
  g_MOST_WIDE : ∃ tk, mg "MOST_WIDE" = some (.int 24 tk)
section
variable {P : Program} {w : World} {K : PySem.W.Frag} {mg : Str → Option Value} {base : Heap}
def sp_is_whole (K : PySem.W.Frag) : Sp := spT (fun _ : PyData => True) (fun d => [dt K d]) (fun d => dt K (.bool (isWholeD d)))
theorem ok_is_whole (T : Tx P K mg) : FnOk P w K mg base (L2.CX P w) 1 T.a_is_whole T.f_is_whole ["value"] (sp_is_whole K) := by
  have nd := sc_is_whole.nd
  refine fn_ty T.F_is_whole sc_is_whole (fun x _ => rfl) fun cdv Ar outer s H E hr => ⟨_, (pss_one (ps_ret (pe_and (k_isi (K := K) rfl T.m_isinstance (pa_cons (pv 0) (pa_cons (bt_int T.m_int) pa_nil))) (pe_one (pe_not (k_isi (K := K) rfl T.m_isinstance (pa_cons (pv 0) (pa_cons (bt_bool T.m_bool) pa_nil)))))))), fun W x hC => ?_⟩
  refine' TyS.never (tys_retW (Ty.is ?h ?k))
  case h => tm_at "ty"
  case k => cases x <;> rfl
end
section
variable {P : Program} {w : World} {K : PySem.W.Frag} {mg : Str → Option Value} {base : Heap}
def isLineOfD (d : PyData) (n : Int) : Bool := match d with
  | .tuple ds => decide ((ds.length : Int) = n) && ds.all isWholeD
  | _ => false
def sp_is_line_of (K : PySem.W.Frag) : Sp := spT (fun x : PyData × Int => sizeD x.1 ≤ 1000) (fun x => [dt K x.1, dt K (.int x.2)]) (fun x => dt K (.bool (isLineOfD x.1 x.2)))
theorem ok_is_line_of (T : Tx P K mg) : FnOk P w K mg base (L2.CX P w) 2 T.a_is_line_of T.f_is_line_of ["value", "width"] (sp_is_line_of K) := by
  have G_is_whole := ok_is_whole (w := w) (base := base) T
  have nd := sc_is_line_of.nd
  refine fn_ty T.F_is_line_of sc_is_line_of (fun x _ => rfl) fun cdv Ar outer s H E hr => ⟨_, (pss_one (ps_ret (pe_and (k_isi (K := K) rfl T.m_isinstance (pa_cons (pv 0) (pa_cons (bt_tuple T.m_tuple) pa_nil))) (pe_and (pe_cmpR (k_eq (K := K) rfl hr.units) (k_len (K := K) rfl T.m_len (pa_cons (pv 0) pa_nil)) (pv 1) (nomark _)) (pe_one (k_all (K := K) rfl T.m_all (pa_cons (plc [("item", 2)] nd (k_itup (K := K) rfl (pv 0)) (fun _ _ _ _ _ => (pgn 2 nd)) (fun _ _ _ _ _ => pts_nil) (fun _ _ _ _ _ => (pcall G_is_whole (hr.mono (by decide)) T.D_is_whole (pa_cons (pv 2) pa_nil))) (by kernel_rfl)) pa_nil))))))), fun W x hC => ?_⟩
  obtain ⟨d, n⟩ := x
  refine TyS.never (tys_retW ?_)
  cases d with
  | tuple ds =>
    refine' (ty_andV ?h1 fun _ => ty_andV ?h2 fun _ => ty_allG (p := isWholeD) ?h3).is ?h4
    case h1 => tm_at "ty"
    case h2 => tm_at "ty"
    case h3 => exact tyl_map (dt K) (fun x => dt K (.bool (isWholeD x))) (tyi_tupD (by tm_at "ty")) (Nat.le_trans hC (by decide)) (by decide) fun W' x _ => ty_call x trivial (by tm_at "tya")
    case h4 => rfl
  | _ => exact Ty.is (ty_andF (by tm_at "tyis")) rfl
end
section
variable {P : Program} {w : World} {K : PySem.W.Frag} {mg : Str → Option Value} {base : Heap}
def isLineD (d : PyData) : Bool := match d with
  | .tuple ds => decide ((ds.length : Int) ≤ 24) && ds.all isWholeD
  | _ => false
def sp_is_line (K : PySem.W.Frag) : Sp := spT (fun d : PyData => sizeD d ≤ 1000) (fun d => [dt K d]) (fun d => dt K (.bool (isLineD d)))
theorem ok_is_line (T : Tx P K mg) : FnOk P w K mg base (L2.CX P w) 3 T.a_is_line T.f_is_line ["value"] (sp_is_line K) := by
  have G_is_line_of := ok_is_line_of (w := w) (base := base) T
  have nd := sc_is_line.nd
  refine fn_ty T.F_is_line sc_is_line (fun x _ => rfl) fun cdv Ar outer s H E hr => ⟨_, (pss_one (ps_ret (pe_and (k_isi (K := K) rfl T.m_isinstance (pa_cons (pv 0) (pa_cons (bt_tuple T.m_tuple) pa_nil))) (pe_and (pe_cmpR op_le (k_len (K := K) rfl T.m_len (pa_cons (pv 0) pa_nil)) (pglob T.g_MOST_WIDE) (nomark _)) (pe_one (pcall G_is_line_of (hr.mono (by decide)) T.D_is_line_of (pa_cons (pv 0) (pa_cons (k_len (K := K) rfl T.m_len (pa_cons (pv 0) pa_nil)) pa_nil)))))))), fun W x hC => ?_⟩
  refine TyS.never (tys_retW ?_)
  cases x with
  | tuple ds =>
    refine' (ty_andV ?h1 fun _ => ty_andV ?h2 fun _ => ty_call (PyData.tuple ds, ((ds.length : Nat) : Int)) hC ?h3).is ?h4
    case h1 => tm_at "ty"
    case h2 => tm_at "ty"
    case h3 => tm_at "tya"
    case h4 => simp [isLineD, isLineOfD, isD, tyD]
  | _ => exact Ty.is (ty_andF (by tm_at "tyis")) rfl
end
section
variable {P : Program} {w : World} {K : PySem.W.Frag} {mg : Str → Option Value} {base : Heap}
def isTableD (d : PyData) : Bool := match d with
  | .tuple (f :: r) => decide (((f :: r).length : Int) ≤ 24) && (isLineD f && (!decide (sizeD f = 0) && (f :: r).all fun l => isLineOfD l (sizeD f : Nat)))
  | _ => false
def okT : PyData → Prop
  | .tuple ds => ds.length ≤ 1000 ∧ ∀ e ∈ ds, sizeD e ≤ 1000
  | _ => True
theorem isLineD_tup {d : PyData} (h : isLineD d = true) : ∃ ds, d = .tuple ds ∧ ds.all isWholeD = true := by
  cases d <;> simp [isLineD] at h
  exact ⟨_, rfl, List.all_eq_true.mpr h.2⟩
theorem tb_no {f : PyData} {r : List PyData} (z : true = (false || (!(decide ((1 : Int) ≤ ((f :: r).length : Nat)) && decide ((((f :: r).length : Nat) : Int) ≤ 24)) || (!isLineD f || decide (sizeD f = 0))))) : isTableD (.tuple (f :: r)) = false := by
  have e1 : decide ((1 : Int) ≤ ((f :: r).length : Nat)) = true := decide_eq_true (by rw [List.length_cons]; omega)
  rw [e1] at z
  show (decide ((((f :: r).length : Nat) : Int) ≤ 24) && (isLineD f && (!decide (sizeD f = 0) && (f :: r).all fun l => isLineOfD l (sizeD f : Nat)))) = false
  generalize decide ((((f :: r).length : Nat) : Int) ≤ 24) = a at *
  generalize isLineD f = b at *
  generalize decide (sizeD f = 0) = c at *
  cases a <;> cases b <;> cases c <;> simp at z ⊢
theorem tb_yes {f : PyData} {r : List PyData} (z : false = (false || (!(decide ((1 : Int) ≤ ((f :: r).length : Nat)) && decide ((((f :: r).length : Nat) : Int) ≤ 24)) || (!isLineD f || decide (sizeD f = 0))))) :
    isLineD f = true ∧ isTableD (.tuple (f :: r)) = (f :: r).all fun l => isLineOfD l (sizeD f : Nat) := by
  have e1 : decide ((1 : Int) ≤ ((f :: r).length : Nat)) = true := decide_eq_true (by rw [List.length_cons]; omega)
  rw [e1] at z
  show isLineD f = true ∧ (decide ((((f :: r).length : Nat) : Int) ≤ 24) && (isLineD f && (!decide (sizeD f = 0) && (f :: r).all fun l => isLineOfD l (sizeD f : Nat)))) = _
  generalize decide ((((f :: r).length : Nat) : Int) ≤ 24) = a at *
  generalize isLineD f = b at *
  generalize decide (sizeD f = 0) = c at *
  cases a <;> cases b <;> cases c <;> simp at z ⊢
theorem bnot1 {b : Bool} (z : true = !b) : b = false := by cases b <;> simp at z ⊢
theorem bnot0 {b : Bool} (z : false = !b) : b = true := by cases b <;> simp at z ⊢
def sp_is_table (K : PySem.W.Frag) : Sp := spT okT (fun d => [dt K d]) (fun d => dt K (.bool (isTableD d)))
theorem ok_is_table (T : Tx P K mg) : FnOk P w K mg base (L2.CX P w) 4 T.a_is_table T.f_is_table ["value"] (sp_is_table K) := by
  have G_is_line := ok_is_line (w := w) (base := base) T
  have G_is_line_of := ok_is_line_of (w := w) (base := base) T
  have nd := sc_is_table.nd
  refine fn_ty T.F_is_table sc_is_table (fun x _ => rfl) fun cdv Ar outer s H E hr => ⟨_, (pss_cons (ps_if (PW.pt (pw_or (pt_not (pt_val (k_isi (K := K) rfl T.m_isinstance (pa_cons (pv 0) (pa_cons (bt_tuple T.m_tuple) pa_nil))))) (pw_or (pt_not (pt_chain op_le op_le pe_int (k_len (K := K) rfl T.m_len (pa_cons (pv 0) pa_nil)) (pglob T.g_MOST_WIDE))) (pw_or (pt_not (pt_val (pcall G_is_line (hr.mono (by decide)) T.D_is_line (pa_cons (pe_ix (k_ix (K := K) rfl) (pv 0) pe_int (fun _ _ => rfl)) pa_nil)))) (pw_or1 (pt_cmpR (k_eq (K := K) rfl hr.units) (pe_ix (k_ix (K := K) rfl) (pv 0) pe_int (fun _ _ => rfl)) (pe_tup pa_nil) (nomark _))))))) (pss_one (ps_ret pe_bl)) pss_nil)
    (pss_one (ps_ret (k_all (K := K) rfl T.m_all (pa_cons (plc [("line", 1)] nd (k_itup (K := K) rfl (pv 0)) (fun _ _ _ _ _ => (pgn 1 nd)) (fun _ _ _ _ _ => pts_nil) (fun _ _ _ _ _ => (pcall G_is_line_of (hr.mono (by decide)) T.D_is_line_of (pa_cons (pv 1) (pa_cons (k_len (K := K) rfl T.m_len (pa_cons (pe_ix (k_ix (K := K) rfl) (pv 0) pe_int (fun _ _ => rfl)) pa_nil)) pa_nil)))) (by kernel_rfl)) pa_nil))))), fun W x hC => ?_⟩
  cases x with
  | tuple ds =>
    cases ds with
    | nil =>
      refine' tys_guard (φ := (· = true)) (Tt.is (tt_orB (a := false) ?h1 fun _ => tt_orTr ?h2) ?h3) (fun _ => tys_retW (Ty.is ty_bl ?h4)) (fun z => Bool.noConfusion z)
      case h1 => exact by tm_at "ttis"
      case h2 => exact by tm_at "ttis"
      case h3 => rfl
      case h4 => rfl
    | cons f r =>
      have hf : sizeD f ≤ 1000 := hC.2 f (List.mem_cons_self ..)
      refine' tys_guard (φ := (· = (false || (!(decide ((1 : Int) ≤ ((f :: r).length : Nat)) && decide ((((f :: r).length : Nat) : Int) ≤ 24)) || (!isLineD f || decide (sizeD f = 0)))))) (tt_orB (a := false) ?h1 fun _ => tt_orB ?h2 fun _ => tt_orB ?h3 ?h4) ?h5 ?h6
      case h1 => exact by tm_at "ttis"
      case h2 => tm_at "tt"
      case h3 => exact tt_notB (tt_test (ty_call f hf (by tm_at "tya")))
      case h4 =>
        intro z
        obtain ⟨fs, rfl, hw⟩ := isLineD_tup (d := f) (by simpa using z)
        exact tt_test (ty_op (ty_op (ty_var rfl) ty_int opt_ix0) (ty_tupD (ds := []) tya_nil (by decide)) (opt_eqNil hw))
      case h5 =>
        intro z
        exact tys_retW (Ty.is ty_bl (congrArg PyData.bool (tb_no z).symm))
      case h6 =>
        intro z
        obtain ⟨z2, z3⟩ := tb_yes z
        obtain ⟨fs, rfl, hw⟩ := isLineD_tup z2
        refine TyS.never (tys_retW (Ty.is (ty_allG (p := fun l => isLineOfD l (fs.length : Nat)) (xs := PyData.tuple fs :: r) ?_) (congrArg PyData.bool z3.symm)))
        exact tyl_map (dt K) (fun l => dt K (.bool (isLineOfD l (fs.length : Nat)))) (tyi_tupD (ty_var rfl)) (Nat.le_trans hC.1 (by decide)) (by decide) fun W' l hl => ty_call (l, ((fs.length : Nat) : Int)) (hC.2 l hl) (tya_cons (ty_var rfl) (tya_cons (ty_cb (tya_cons (ty_op (ty_var rfl) ty_int opt_ix0) tya_nil) cbt_lenT) tya_nil))
  | _ => exact tys_guard (φ := (· = true)) (tt_orTr (by tm_at "ttis")) (fun _ => tys_retW (Ty.is ty_bl rfl)) (fun z => Bool.noConfusion z)
end
section
variable {P : Program} {w : World} {K : PySem.W.Frag} {mg : Str → Option Value} {base : Heap}
def sp_check_table (T : Tx P K mg) : Sp := spE okT (fun d => [dt K d]) (fun _ => dt K .none) (fun d => if isTableD d = true then none else some (T.a_InvalidTable, dt K d))
theorem ok_check_table (T : Tx P K mg) : FnOk P w K mg base (L2.CX P w) 5 T.a_check_table T.f_check_table ["table"] (sp_check_table T) := by
  have G_is_table := ok_is_table (w := w) (base := base) T
  have nd := sc_check_table.nd
  refine fn_tyE T.F_check_table sc_check_table (fun x _ => rfl) fun cdv Ar outer s H E hr => ⟨_, (pss_one (ps_if (pt_not (pt_val (pcall G_is_table (hr.mono (by decide)) T.D_is_table (pa_cons (pv 0) pa_nil)))) (pss_one (ps_raiseW rfl T.base T.c_InvalidTable hr (takes_of rfl rfl rfl rfl) (pa_cons (pv 0) pa_nil))) pss_nil)), fun W x hC he => ?_⟩
  refine tys_guard (φ := (· = !isTableD x)) ?_ (fun z => ?_) fun z => ?_
  · exact tt_notB (tt_test (ty_call x hC (by tm_at "tya")))
  · have e : isTableD x = false := bnot1 z
    exact tys_raise (T := dt K x) (by tm_at "ty") (he _ _ _ (by rw [e]; rfl))
  · have e : isTableD x = true := bnot0 z
    exact tys_next.imp fun σ H n => ⟨by rw [e]; rfl, n.1.ex, .non⟩
end
section
variable {P : Program} {w : World} {K : PySem.W.Frag} {mg : Str → Option Value} {base : Heap}
def sp_dotted (K : PySem.W.Frag) : Sp := spT (fun x : List Int × List Int => sml x.1 ∧ sml x.2) (fun x => [dt K (intsD x.1), dt K (intsD x.2)]) (fun x => dt K (.int (dotI x.1 x.2)))
theorem ok_dotted (T : Tx P K mg) : FnOk P w K mg base (L2.CX P w) 1 T.a_dotted T.f_dotted ["one", "other"] (sp_dotted K) := by
  have nd := sc_dotted.nd
  refine fn_ty T.F_dotted sc_dotted (fun x _ => rfl) fun cdv Ar outer s H E hr => ⟨_, (pss_one (ps_ret (k_sum (K := K) rfl T.m_sum (pa_cons (plc [("here", 2), ("there", 3)] nd (k_izip (K := K) rfl T.m_zip (pa_cons (pv 0) (pa_cons (pv 1) pa_nil))) (fun _ _ _ _ _ => (k_gtup (K := K) (n := 2) rfl (pgs_cons (pgn 2 nd) (pgs_cons (pgn 3 nd) pgs_nil)))) (fun _ _ _ _ _ => pts_nil) (fun _ _ _ _ _ => (pe_op op_mulA (pv 2) (pv 3))) (by kernel_rfl)) pa_nil)))), fun W x hC => ?_⟩
  obtain ⟨a, b⟩ := x
  dsimp only at hC
  obtain ⟨h1, h2⟩ := hC
  refine TyS.never (tys_retW (ty_sumG (f := fun p : Int × Int => p.1 * p.2) ?_))
  refine tyl_mapT (fun p : Int × Int => tupT K [dt K (.int p.1), dt K (.int p.2)]) (fun p => dt K (.int (p.1 * p.2))) (tyi_zipA (f := .int) (h := .int) (by tm_at "ty") (by tm_at "ty")) (by show (a.zip b).length ≤ 1000000; rw [List.length_zip]; have := h1.1; omega) (gok_pair (by decide) (by decide)) fun W' p hp => ⟨_, tyg_pair, ?_⟩
  have m1 := h1.2 p.1 (List.of_mem_zip hp).1
  have m2 := h2.2 p.2 (List.of_mem_zip hp).2
  exact ty_op (ty_var rfl) (ty_var rfl) (opt_mulW (sm_mul m1 m2))
end
section
variable {P : Program} {w : World} {K : PySem.W.Frag} {mg : Str → Option Value} {base : Heap}
def sp_applied_to (K : PySem.W.Frag) : Sp := spT (fun x : List (List Int) × List Int => smt x.1 ∧ sml x.2) (fun x => [dt K (tabD x.1), dt K (intsD x.2)]) (fun x => dt K (intsD (applyI x.1 x.2)))
theorem ok_applied_to (T : Tx P K mg) : FnOk P w K mg base (L2.CX P w) 2 T.a_applied_to T.f_applied_to ["table", "line"] (sp_applied_to K) := by
  have G_dotted := ok_dotted (w := w) (base := base) T
  have nd := sc_applied_to.nd
  refine fn_ty T.F_applied_to sc_applied_to (fun x _ => rfl) fun cdv Ar outer s H E hr => ⟨_, (pss_one (ps_ret (k_tuple (K := K) rfl T.m_tuple (pa_cons (plc [("row", 2)] nd (k_itup (K := K) rfl (pv 0)) (fun _ _ _ _ _ => (pgn 2 nd)) (fun _ _ _ _ _ => pts_nil) (fun _ _ _ _ _ => (pcall G_dotted (hr.mono (by decide)) T.D_dotted (pa_cons (pv 2) (pa_cons (pv 1) pa_nil)))) (by kernel_rfl)) pa_nil)))), fun W x hC => ?_⟩
  obtain ⟨t, l⟩ := x
  dsimp only at hC
  obtain ⟨h1, h2⟩ := hC
  refine TyS.never (tys_retW (Ty.is (ty_tupG (f := fun r => .int (dotI r l)) (xs := t) ?_) ?_))
  · exact tyl_map (fun r => dt K (intsD r)) (fun r => dt K (.int (dotI r l))) (tyi_tupA (f := intsD) (by tm_at "ty")) (by have := h1.1; omega) (by decide) fun W' r hr => ty_call (r, l) ⟨h1.2 r hr, h2⟩ (by tm_at "tya")
  · rw [intsD, applyI, List.map_map]; rfl
end
section
variable {P : Program} {w : World} {K : PySem.W.Frag} {mg : Str → Option Value} {base : Heap}
def sp_turned_of (K : PySem.W.Frag) : Sp := spT (fun x : List (List Int) × Nat => x.1.length ≤ 1000 ∧ x.2 ≤ 1000 ∧ ∀ r ∈ x.1, r.length = x.2) (fun x => [dt K (tabD x.1), dt K (.int (x.2 : Nat))]) (fun x => dt K (tabD (turnI x.1 x.2)))
theorem ok_turned_of (T : Tx P K mg) : FnOk P w K mg base (L2.CX P w) 1 T.a_turned_of T.f_turned_of ["table", "width"] (sp_turned_of K) := by
  have nd := sc_turned_of.nd
  refine fn_ty T.F_turned_of sc_turned_of (fun x _ => rfl) fun cdv Ar outer s H E hr => ⟨_, (pss_one (ps_ret (k_tuple (K := K) rfl T.m_tuple (pa_cons (plc [("at", 3)] nd (pi_range1 rfl T.m_range (pa_cons (pv 1) pa_nil)) (fun _ _ _ _ _ => (pgn 3 nd)) (fun _ _ _ _ _ => pts_nil) (fun _ _ _ _ _ => (k_tuple (K := K) rfl T.m_tuple (pa_cons (plc [("line", 2)] nd (k_itup (K := K) rfl (pv 0)) (fun _ _ _ _ _ => (pgn 2 nd)) (fun _ _ _ _ _ => pts_nil) (fun _ _ _ _ _ => (pe_ix (k_ix (K := K) rfl) (pv 2) (pv 3) (fun _ _ => rfl))) (by kernel_rfl)) pa_nil))) (by kernel_rfl)) pa_nil)))), fun W x hC => ?_⟩
  obtain ⟨t, n⟩ := x
  dsimp only at hC
  obtain ⟨h1, h2, h3⟩ := hC
  refine TyS.never (tys_retW (Ty.is (ty_tupG (f := fun i : Nat => intsD (t.map fun r => r.getD i 0)) (xs := List.range n) ?_) ?_))
  · have hi : TyI W (List.map some [dt K (tabD (t, n).1), dt K (.int (((t, n).2 : Nat) : Int))] ++ List.replicate 2 none) (iRng1 (tCons (tVar 1) tNil)) ((List.range n).map fun i : Nat => dt K (.int (i : Nat))) := tyi_rng (n := n) (by tm_at "tya") (by omega)
    have hs : ∀ (W' : Wd) (i : Nat), i ∈ List.range n → Ty W' ((wipeG (List.map some [dt K (tabD (t, n).1), dt K (.int (((t, n).2 : Nat) : Int))] ++ List.replicate 2 none) [3]).set 3 (some (dt K (.int (i : Nat))))) (tCB (rTupOf K) (tCons (tLc (iTup K (tVar 0)) (gName 2) tYes (tOp (rIx K) (tVar 2) (tVar 3)) [2]) tNil)) (dt K (intsD (t.map fun r => r.getD i 0))) := fun W' i hi => by
      have hi' : i < n := List.mem_range.mp hi
      refine Ty.is (ty_tupG (f := fun r : List Int => .int (r.getD i 0)) (xs := t) ?_) ?_
      · refine tyl_map (fun r => dt K (intsD r)) (fun r => dt K (.int (r.getD i 0))) (tyi_tupA (f := intsD) (by tm_at "ty")) (by omega) (by decide) fun W'' r hr => ?_
        have e : r.length = n := h3 r hr
        exact ty_op (ty_var rfl) (ty_var rfl) (opt_ixTN (n := i) (by rw [List.getElem?_map, List.getElem?_eq_getElem (by omega), List.getD_eq_getElem?_getD, List.getElem?_eq_getElem (by omega)]; rfl))
      · rw [intsD, List.map_map]; rfl
    exact tyl_map _ _ hi (by rw [List.length_range]; omega) (by decide) hs
  · rw [tabD, turnI, List.map_map]; rfl
end
section
variable {P : Program} {w : World} {K : PySem.W.Frag} {mg : Str → Option Value} {base : Heap}
def mixOk (t : List (List Int)) (w : Nat) : Prop := t.length ≤ 1000 ∧ w ≤ 1000 ∧ ∀ l ∈ t, l.length ≤ 1000
/-- the factors are small -/
def mixB (s : List Int) (t : List (List Int)) (_ : Nat) : Prop := ∀ p ∈ s.zip t, ∀ v ∈ p.2, sm p.1 ∧ sm v
theorem mix_len {p : List (Int × List Int)} : ∀ {f : List Int}, f.length ≤ 1000 → (p.foldl mixStep f).length ≤ 1000 := by
  induction p with
  | nil => intro f h; exact h
  | cons a p ih =>
    intro f h
    refine ih ?_
    unfold mixStep
    split
    · rw [addI, List.length_map, List.length_zip]; omega
    · exact h
theorem take_snoc {α : Type} {l : List α} {i : Nat} {x : α} (h : l[i]? = some x) : l.take (i + 1) = l.take i ++ [x] := by
  rw [List.take_add_one, h]; rfl
def sp_mixed_of (K : PySem.W.Frag) : Sp := spT (fun x : List Int × List (List Int) × Nat => mixOk x.2.1 x.2.2 ∧ mixB x.1 x.2.1 x.2.2) (fun x => [dt K (intsD x.1), dt K (tabD x.2.1), dt K (.int (x.2.2 : Nat))]) (fun x => dt K (intsD (mixI x.1 x.2.1 x.2.2)))
theorem ok_mixed_of (T : Tx P K mg) : FnOk P w K mg base (L2.CX P w) 1 T.a_mixed_of T.f_mixed_of ["shares", "table", "width"] (sp_mixed_of K) := by
  have nd := sc_mixed_of.nd
  refine fn_ty T.F_mixed_of sc_mixed_of (fun x _ => rfl) fun cdv Ar outer s H E hr => ⟨_, (pss_cons (pset 3 nd (pe_op op_rep (pe_lst (pa_cons pe_int pa_nil)) (pv 2)))
    (pss_cons (ps_for PassesOwn.never rfl (k_izip (K := K) rfl T.m_zip (pa_cons (pv 0) (pa_cons (pv 1) pa_nil))) (k_gtup (K := K) (n := 2) rfl (pgs_cons (pgn 4 nd) (pgs_cons (pgn 5 nd) pgs_nil))) (pss_one (ps_if (pt_cmpR (k_ne (K := K) rfl hr.units) (pv 4) pe_int (nomark _)) (pss_one (psetLc 3 [("here", 6), ("there", 7)] nd (k_izipLT (K := K) rfl T.m_zip (pa_cons (pv 3) (pa_cons (pv 5) pa_nil))) (fun _ _ _ _ _ => (k_gtup (K := K) (n := 2) rfl (pgs_cons (pgn 6 nd) (pgs_cons (pgn 7 nd) pgs_nil)))) (fun _ _ _ _ _ => pts_nil) (fun _ _ _ _ _ => (pe_op (k_add (K := K) rfl) (pv 6) (pe_op op_mulA (pv 4) (pv 7)))) (by kernel_rfl) (sw_true rfl rfl rfl (by kernel_rfl)))) pss_nil)))
    (pss_one (ps_ret (k_tuple (K := K) rfl T.m_tuple (pa_cons (pv 3) pa_nil)))))), fun W x hC => ?_⟩
  obtain ⟨s, t, n⟩ := x
  dsimp only at hC
  obtain ⟨⟨h1, h2, h3⟩, h4⟩ := hC
  have h2' : (n : Int) ≤ 1000 := by have : n ≤ 1000 := h2; omega
  have rep : (List.replicate (n : Int).toNat [PyData.int 0]).flatten = (List.replicate n (0 : Int)).map .int := by
    rw [Int.toNat_natCast, List.map_replicate]
    exact List.flatten_replicate_singleton
  have zl : (s.zip t).length ≤ 1000 := by rw [List.length_zip]; omega
  refine tys_seqE (W' := W) (Γ' := [some (dt K (intsD s)), some (dt K (tabD t)), some (dt K (.int (n : Nat))), some (dt K (linD (List.replicate n 0))), none, none, none, none]) (tys_set (Ty.is (e := linD (List.replicate n 0)) (ty_op (ty_lstD (ds := [.int 0]) (by tm_at "tyad") (by decide)) (by tm_at "ty") (opt_repI (by omega) h2' (by decide))) ?_)) ?_
  · rw [linD]; exact congrArg PyData.list rep
  refine tys_seqE (W' := W) (Γ' := [some (dt K (intsD s)), some (dt K (tabD t)), some (dt K (.int (n : Nat))), some (dt K (linD (mixI s t n))), none, none, none, none]) ?_ (TyS.never (tys_retW ((ty_cb (tya_cons ((ty_var rfl : Ty W _ _ (dt K (linD (mixI s t n)))).sub fun _ _ _ => data_lstT) tya_nil) cbt_tupL).sub fun _ _ _ => tupT_data)))
  have hi : TyI W [some (dt K (intsD s)), some (dt K (tabD t)), some (dt K (.int (n : Nat))), some (dt K (linD (List.replicate n 0))), none, none, none, none] (RZ.iZipA K (tCons (tVar 0) (tCons (tVar 1) tNil))) ((s.zip t).map fun p => tupT K [dt K (.int p.1), dt K (intsD p.2)]) := tyi_zipA (f := .int) (h := intsD) (ty_var rfl) (ty_var rfl)
  refine tys_for (Wi := fun _ (_ : Unit) => W) (Γi := fun i (_ : Unit) => [some (dt K (intsD s)), some (dt K (tabD t)), some (dt K (.int (n : Nat))), some (dt K (linD (((s.zip t).take i).foldl mixStep (List.replicate n 0)))), none, none, none, none]) () hi (fun _ _ => Wd.Like.refl W) (fun σ H g => g) (fun i T x hT => ?_) (fun x σ H g => ?_)
  · rw [List.getElem?_map] at hT
    cases hp : (s.zip t)[i]? with
    | none => rw [hp] at hT; cases hT
    | some p =>
      rw [hp] at hT
      cases hT
      have mp := List.mem_of_getElem? hp
      have hl : ((((s.zip t).take i).foldl mixStep (List.replicate n 0))).length ≤ 1000 := mix_len (by rw [List.length_replicate]; exact h2)
      have hp2 : p.2.length ≤ 1000 := h3 p.2 (List.of_mem_zip mp).2
      refine ⟨_, tyg_pair, ?_⟩
      rw [take_snoc hp, List.foldl_append]
      show TyS _ _ _ (fun σ H => ∃ y : Unit, nE W [some (dt K (intsD s)), some (dt K (tabD t)), some (dt K (.int (n : Nat))), some (dt K (linD (mixStep (((s.zip t).take i).foldl mixStep (List.replicate n 0)) p))), none, none, none, none] σ H) _ _ _
      generalize ((s.zip t).take i).foldl mixStep (List.replicate n 0) = f at *
      refine TyS.imp (tys_if (N := nE W [some (dt K (intsD s)), some (dt K (tabD t)), some (dt K (.int (n : Nat))), some (dt K (linD (mixStep f p))), none, none, none, none]) (φ := (· = !decide (p.1 = 0))) (by tm_at "tt") (fun z => ?_) (fun z => ?_)) (fun σ H g => ⟨(), g⟩)
      · have e : mixStep f p = addI p.1 f p.2 := if_pos (by simpa using z)
        rw [e]
        have hz : TyI W ((([some (dt K (intsD s)), some (dt K (tabD t)), some (dt K (.int (n : Nat))), some (dt K (linD f)), none, none, none, none] : Gam).set 4 (some (dt K (.int p.1)))).set 5 (some (dt K (intsD p.2)))) (RZ.iZipLT K (tCons (tVar 3) (tCons (tVar 5) tNil))) ((f.zip p.2).map fun q => tupT K [dt K (.int q.1), dt K (.int q.2)]) := tyi_zipLTA (f := .int) (h := .int) (ty_var rfl) (ty_var rfl)
        refine TyS.imp (tys_set (Ty.is (e := linD (addI p.1 f p.2)) (ty_lstG (f := fun q : Int × Int => .int (q.1 + p.1 * q.2)) (xs := f.zip p.2) (tyl_mapT _ (fun q : Int × Int => dt K (.int (q.1 + p.1 * q.2))) hz (by rw [List.length_zip]; omega) (gok_pair (by decide) (by decide)) fun W' q hq => ⟨_, tyg_pair, ?_⟩)) ?_)) (fun σ H g => ⟨g.1, EnvL.less ?_ g.2⟩)
        · have m2 := h4 p mp q.2 (List.of_mem_zip hq).2
          exact ty_op (ty_var rfl) (ty_op (ty_var rfl) (ty_var rfl) (opt_mulW (sm_mul m2.1 m2.2))) opt_add
        · rw [linD, addI, List.map_map]; rfl
        · exact ⟨fun _ _ _ _ h => h, fun _ _ _ _ h => h, fun _ _ _ _ h => h, fun _ _ _ _ h => h, True.intro⟩
      · have e : mixStep f p = f := if_neg (by simpa using z)
        rw [e]
        refine TyS.imp tys_next (fun σ H g => ⟨g.1, EnvL.less ?_ g.2⟩)
        exact ⟨fun _ _ _ _ h => h, fun _ _ _ _ h => h, fun _ _ _ _ h => h, fun _ _ _ _ h => h, True.intro⟩
  · rw [List.length_map, List.take_length] at g
    exact g
end
section
variable {P : Program} {w : World} {K : PySem.W.Frag} {mg : Str → Option Value} {base : Heap}
def sp_times_of (K : PySem.W.Frag) : Sp := spT (fun x : List (List Int) × List (List Int) × Nat => smt x.1 ∧ mixOk x.2.1 x.2.2 ∧ (∀ r ∈ x.1, mixB r x.2.1 x.2.2)) (fun x => [dt K (tabD x.1), dt K (tabD x.2.1), dt K (.int (x.2.2 : Nat))]) (fun x => dt K (tabD (timesI x.1 x.2.1 x.2.2)))
theorem ok_times_of (T : Tx P K mg) : FnOk P w K mg base (L2.CX P w) 2 T.a_times_of T.f_times_of ["one", "other", "width"] (sp_times_of K) := by
  have G_mixed_of := ok_mixed_of (w := w) (base := base) T
  have nd := sc_times_of.nd
  refine fn_ty T.F_times_of sc_times_of (fun x _ => rfl) fun cdv Ar outer s H E hr => ⟨_, (pss_one (ps_ret (k_tuple (K := K) rfl T.m_tuple (pa_cons (plc [("line", 3)] nd (k_itup (K := K) rfl (pv 0)) (fun _ _ _ _ _ => (pgn 3 nd)) (fun _ _ _ _ _ => pts_nil) (fun _ _ _ _ _ => (pcall G_mixed_of (hr.mono (by decide)) T.D_mixed_of (pa_cons (pv 3) (pa_cons (pv 1) (pa_cons (pv 2) pa_nil))))) (by kernel_rfl)) pa_nil)))), fun W x hC => ?_⟩
  obtain ⟨a, b, w⟩ := x
  dsimp only at hC
  obtain ⟨h1, h2, h3⟩ := hC
  refine TyS.never (tys_retW (Ty.is (ty_tupG (f := fun r => intsD (mixI r b w)) (xs := a) ?_) ?_))
  · exact tyl_map (fun r => dt K (intsD r)) (fun r => dt K (intsD (mixI r b w))) (tyi_tupA (f := intsD) (by tm_at "ty")) (by have := h1.1; omega) (by decide) fun W' r hr => ty_call (r, b, w) ⟨h2, h3 r hr⟩ (by tm_at "tya")
  · rw [tabD, timesI, List.map_map]; rfl
end
section
variable {P : Program} {w : World} {K : PySem.W.Frag} {mg : Str → Option Value} {base : Heap}
def sp_unit_table (K : PySem.W.Frag) : Sp := spT (fun n : Nat => n ≤ 1000) (fun n => [dt K (.int (n : Nat))]) (fun n => dt K (tabD (unitI n)))
theorem ok_unit_table (T : Tx P K mg) : FnOk P w K mg base (L2.CX P w) 1 T.a_unit_table T.f_unit_table ["many"] (sp_unit_table K) := by
  have nd := sc_unit_table.nd
  refine fn_ty T.F_unit_table sc_unit_table (fun x _ => rfl) fun cdv Ar outer s H E hr => ⟨_, (pss_one (ps_ret (k_tuple (K := K) rfl T.m_tuple (pa_cons (plc [("at", 2)] nd (pi_range1 rfl T.m_range (pa_cons (pv 0) pa_nil)) (fun _ _ _ _ _ => (pgn 2 nd)) (fun _ _ _ _ _ => pts_nil) (fun _ _ _ _ _ => (k_tuple (K := K) rfl T.m_tuple (pa_cons (plc [("place", 1)] nd (pi_range1 rfl T.m_range (pa_cons (pv 0) pa_nil)) (fun _ _ _ _ _ => (pgn 1 nd)) (fun _ _ _ _ _ => pts_nil) (fun _ _ _ _ _ => (bi_int T.m_int (pa_cons (pe_cmpR (k_eq (K := K) rfl hr.units) (pv 2) (pv 1) (nomark _)) pa_nil))) (by kernel_rfl)) pa_nil))) (by kernel_rfl)) pa_nil)))), fun W x hC => ?_⟩

  refine TyS.never (tys_retW (Ty.is (ty_tupG (f := fun i : Nat => intsD ((List.range x).map fun j => if i = j then 1 else 0)) (xs := List.range x) ?_) ?_))
  · refine tyl_map (fun i : Nat => dt K (.int (i : Nat))) (fun i : Nat => dt K (intsD ((List.range x).map fun j => if i = j then 1 else 0))) (tyi_rng (by tm_at "tya") (by have : x ≤ 1000 := hC; omega)) (by rw [List.length_range]; have : x ≤ 1000 := hC; omega) (by decide) fun W' i hi => ?_
    refine Ty.is (ty_tupG (f := fun j : Nat => .int (if i = j then 1 else 0)) (xs := List.range x) ?_) ?_
    · refine tyl_map (fun i : Nat => dt K (.int (i : Nat))) (fun j : Nat => dt K (.int (if i = j then 1 else 0))) (tyi_rng (by tm_at "tya") (by have : x ≤ 1000 := hC; omega)) (by rw [List.length_range]; have : x ≤ 1000 := hC; omega) (by decide) fun W'' j hj => ?_
      refine Ty.is (by tm_at "ty") ?_
      by_cases e : i = j
      · subst e; simp
      · have e' : ¬ ((i : Int) = (j : Int)) := by omega
        simp [e, e']
    · rw [intsD, List.map_map]; rfl
  · rw [tabD, unitI, List.map_map]; rfl
end
section
variable {P : Program} {w : World} {K : PySem.W.Frag} {mg : Str → Option Value} {base : Heap}
def sp_dot (T : Tx P K mg) : Sp := spE (fun x : PyData × PyData × Int => sizeD x.1 ≤ 1000 ∧ sizeD x.2.1 ≤ 1000 ∧ (isLineD x.1 = true → isLineOfD x.2.1 (sizeD x.1 : Nat) = true → ∃ a b, x.1 = intsD a ∧ x.2.1 = intsD b ∧ sml a ∧ sml b ∧ x.2.2 = dotI a b))
  (fun x => [dt K x.1, dt K x.2.1]) (fun x => dt K (.int x.2.2))
  (fun x => if isLineD x.1 = true then (if isLineOfD x.2.1 (sizeD x.1 : Nat) = true then none else some (T.a_InvalidLine, dt K x.2.1)) else some (T.a_InvalidLine, dt K x.1))
theorem ok_dot (T : Tx P K mg) : FnOk P w K mg base (L2.CX P w) 4 T.a_dot T.f_dot ["one", "other"] (sp_dot T) := by
  have G_dotted := ok_dotted (w := w) (base := base) T
  have G_is_line := ok_is_line (w := w) (base := base) T
  have G_is_line_of := ok_is_line_of (w := w) (base := base) T
  have nd := sc_dot.nd
  refine fn_tyE T.F_dot sc_dot (fun x _ => rfl) fun cdv Ar outer s H E hr => ⟨_, (pss_cons (ps_if (pt_not (pt_val (pcall G_is_line (hr.mono (by decide)) T.D_is_line (pa_cons (pv 0) pa_nil)))) (pss_one (ps_raiseW rfl T.base T.c_InvalidLine hr (takes_of rfl rfl rfl rfl) (pa_cons (pv 0) pa_nil))) pss_nil)
    (pss_cons (ps_if (pt_not (pt_val (pcall G_is_line_of (hr.mono (by decide)) T.D_is_line_of (pa_cons (pv 1) (pa_cons (k_len (K := K) rfl T.m_len (pa_cons (pv 0) pa_nil)) pa_nil))))) (pss_one (ps_raiseW rfl T.base T.c_InvalidLine hr (takes_of rfl rfl rfl rfl) (pa_cons (pv 1) pa_nil))) pss_nil)
    (pss_one (ps_ret (pcall G_dotted (hr.mono (by decide)) T.D_dotted (pa_cons (pv 0) (pa_cons (pv 1) pa_nil))))))), fun W x hC he => ?_⟩
  obtain ⟨d, e, r⟩ := x
  dsimp only at hC he ⊢
  obtain ⟨h1, h2, h3⟩ := hC
  refine tys_guard (φ := (· = !isLineD d)) (tt_notB (tt_test (ty_call d h1 (by tm_at "tya")))) (fun z => ?_) fun z => ?_
  · exact tys_raise (T := dt K d) (by tm_at "ty") (he _ _ _ (if_neg (by rw [bnot1 z]; exact Bool.false_ne_true)))
  · have q := bnot0 z
    obtain ⟨ds, rfl, hw⟩ := isLineD_tup q
    refine tys_guard (φ := (· = !isLineOfD e (ds.length : Nat))) (tt_notB (tt_test (ty_call (e, ((ds.length : Nat) : Int)) h2 (by tm_at "tya")))) (fun z' => ?_) fun z' => ?_
    · exact tys_raise (T := dt K e) (by tm_at "ty") (he _ _ _ (by rw [if_pos q]; exact if_neg (by rw [show isLineOfD e (sizeD (PyData.tuple ds) : Nat) = false from bnot1 z']; exact Bool.false_ne_true)))
    · have q' : isLineOfD e (sizeD (PyData.tuple ds) : Nat) = true := bnot0 z'
      obtain ⟨a, b, e1, e2, m1, m2, rfl⟩ := h3 q q'
      obtain rfl : ds = a.map PyData.int := PyData.tuple.inj e1
      subst e2
      exact TyS.never (tys_retE (by rw [if_pos q, if_pos q']) (ty_call (a, b) ⟨m1, m2⟩ (tya_cons (ty_var rfl) (tya_cons (ty_var rfl) tya_nil))))
end
section
variable {P : Program} {w : World} {K : PySem.W.Frag} {mg : Str → Option Value} {base : Heap}
def widD : PyData → Nat
  | .tuple (f :: _) => sizeD f
  | _ => 0
theorem isTableD_form {d : PyData} (h : isTableD d = true) : ∃ fs r, d = .tuple (.tuple fs :: r) := by
  match d, h with
  | .tuple (f :: r), h =>
    have h1 : isLineD f = true := by
      have z : (decide ((((f :: r).length : Nat) : Int) ≤ 24) && (isLineD f && (!decide (sizeD f = 0) && (f :: r).all fun l => isLineOfD l (sizeD f : Nat)))) = true := h
      rw [Bool.and_eq_true, Bool.and_eq_true] at z
      exact z.2.1
    obtain ⟨fs, rfl, _⟩ := isLineD_tup h1
    exact ⟨fs, r, rfl⟩
def sp_applied (T : Tx P K mg) : Sp := spE (fun x : PyData × PyData × List Int => okT x.1 ∧ sizeD x.2.1 ≤ 1000 ∧ (isTableD x.1 = true → isLineOfD x.2.1 (widD x.1 : Nat) = true → ∃ a b, x.1 = tabD a ∧ x.2.1 = intsD b ∧ smt a ∧ sml b ∧ x.2.2 = applyI a b))
  (fun x => [dt K x.1, dt K x.2.1]) (fun x => dt K (intsD x.2.2))
  (fun x => if isTableD x.1 = true then (if isLineOfD x.2.1 (widD x.1 : Nat) = true then none else some (T.a_InvalidLine, dt K x.2.1)) else some (T.a_InvalidTable, dt K x.1))
theorem ok_applied (T : Tx P K mg) : FnOk P w K mg base (L2.CX P w) 6 T.a_applied T.f_applied ["table", "line"] (sp_applied T) := by
  have G_check_table := ok_check_table (w := w) (base := base) T
  have G_applied_to := ok_applied_to (w := w) (base := base) T
  have G_is_line_of := ok_is_line_of (w := w) (base := base) T
  have nd := sc_applied.nd
  refine fn_tyE T.F_applied sc_applied (fun x _ => rfl) fun cdv Ar outer s H E hr => ⟨_, (pss_cons (ps_expr (pe_callS G_check_table (hr.mono (by decide)) rfl T.D_check_table.g T.D_check_table.k T.D_check_table.b (fun σ => passAt (takes_of rfl rfl rfl rfl) σ) (pa_cons (pv 0) pa_nil)))
    (pss_cons (ps_if (pt_not (pt_val (pcall G_is_line_of (hr.mono (by decide)) T.D_is_line_of (pa_cons (pv 1) (pa_cons (k_len (K := K) rfl T.m_len (pa_cons (pe_ix (k_ix (K := K) rfl) (pv 0) pe_int (fun _ _ => rfl)) pa_nil)) pa_nil))))) (pss_one (ps_raiseW rfl T.base T.c_InvalidLine hr (takes_of rfl rfl rfl rfl) (pa_cons (pv 1) pa_nil))) pss_nil)
    (pss_one (ps_ret (pcall G_applied_to (hr.mono (by decide)) T.D_applied_to (pa_cons (pv 0) (pa_cons (pv 1) pa_nil))))))), fun W x hC he => ?_⟩
  obtain ⟨d, e, r⟩ := x
  dsimp only at hC he ⊢
  obtain ⟨h1, h2, h3⟩ := hC
  refine tys_seqG (φ := isTableD d = true) ((tys_dropG (ty_callE d h1 (by tm_at "tya") (fun c T' hb => ?_))).imp fun σ H n => ⟨?_, n.2⟩) fun q => ?_
  · by_cases c1 : isTableD d = true
    · rw [if_pos c1] at hb; cases hb
    · rw [if_neg c1] at hb
      exact he _ _ _ (by rw [if_neg c1]; exact hb)
  · by_cases c1 : isTableD d = true
    · exact c1
    · have n1 := n.1
      rw [if_neg c1] at n1; cases n1
  · obtain ⟨fs, rs, rfl⟩ := isTableD_form q
    refine tys_guard (φ := (· = !isLineOfD e (fs.length : Nat))) (tt_notB (tt_test (ty_call (e, ((fs.length : Nat) : Int)) h2 (tya_cons (ty_var rfl) (tya_cons (ty_cb (tya_cons (ty_op (ty_var rfl) ty_int opt_ix0) tya_nil) cbt_lenT) tya_nil))))) (fun z' => ?_) fun z' => ?_
    · exact tys_raise (T := dt K e) (by tm_at "ty") (he _ _ _ (by rw [if_pos q]; exact if_neg (by rw [show isLineOfD e (widD (PyData.tuple (PyData.tuple fs :: rs)) : Nat) = false from bnot1 z']; exact Bool.false_ne_true)))
    · have q' : isLineOfD e (widD (PyData.tuple (PyData.tuple fs :: rs)) : Nat) = true := bnot0 z'
      obtain ⟨a, b, e1, e2, m1, m2, rfl⟩ := h3 q q'
      subst e2
      exact TyS.never (tys_retE (by rw [if_pos q, if_pos q']) (ty_call (a, b) ⟨m1, m2⟩ (tya_cons ((ty_var rfl).is e1) (tya_cons (ty_var rfl) tya_nil))))
end
section
variable {P : Program} {w : World} {K : PySem.W.Frag} {mg : Str → Option Value} {base : Heap}
def sp_times (T : Tx P K mg) : Sp := spE (fun x : PyData × PyData × List (List Int) => okT x.1 ∧ okT x.2.1 ∧ (isTableD x.1 = true → isTableD x.2.1 = true → sizeD x.2.1 = widD x.1 → ∃ a b n, x.1 = tabD a ∧ x.2.1 = tabD b ∧ widD x.2.1 = n ∧ smt a ∧ mixOk b n ∧ (∀ r ∈ a, mixB r b n) ∧ x.2.2 = timesI a b n))
  (fun x => [dt K x.1, dt K x.2.1]) (fun x => dt K (tabD x.2.2))
  (fun x => if isTableD x.1 = true then (if isTableD x.2.1 = true ∧ sizeD x.2.1 = widD x.1 then none else some (T.a_InvalidTable, dt K x.2.1)) else some (T.a_InvalidTable, dt K x.1))
theorem ok_times (T : Tx P K mg) : FnOk P w K mg base (L2.CX P w) 6 T.a_times T.f_times ["one", "other"] (sp_times T) := by
  have G_check_table := ok_check_table (w := w) (base := base) T
  have G_times_of := ok_times_of (w := w) (base := base) T
  have G_is_table := ok_is_table (w := w) (base := base) T
  have nd := sc_times.nd
  refine fn_tyE T.F_times sc_times (fun x _ => rfl) fun cdv Ar outer s H E hr => ⟨_, (pss_cons (ps_expr (pe_callS G_check_table (hr.mono (by decide)) rfl T.D_check_table.g T.D_check_table.k T.D_check_table.b (fun σ => passAt (takes_of rfl rfl rfl rfl) σ) (pa_cons (pv 0) pa_nil)))
    (pss_cons (ps_if (PW.pt (pw_or (pt_not (pt_val (pcall G_is_table (hr.mono (by decide)) T.D_is_table (pa_cons (pv 1) pa_nil)))) (pw_or1 (pt_cmpR (k_ne (K := K) rfl hr.units) (k_len (K := K) rfl T.m_len (pa_cons (pv 1) pa_nil)) (k_len (K := K) rfl T.m_len (pa_cons (pe_ix (k_ix (K := K) rfl) (pv 0) pe_int (fun _ _ => rfl)) pa_nil)) (nomark _))))) (pss_one (ps_raiseW rfl T.base T.c_InvalidTable hr (takes_of rfl rfl rfl rfl) (pa_cons (pv 1) pa_nil))) pss_nil)
    (pss_one (ps_ret (pcall G_times_of (hr.mono (by decide)) T.D_times_of (pa_cons (pv 0) (pa_cons (pv 1) (pa_cons (k_len (K := K) rfl T.m_len (pa_cons (pe_ix (k_ix (K := K) rfl) (pv 1) pe_int (fun _ _ => rfl)) pa_nil)) pa_nil)))))))), fun W x hC he => ?_⟩
  obtain ⟨d, e, r⟩ := x
  dsimp only at hC he ⊢
  obtain ⟨h1, h2, h3⟩ := hC
  refine tys_seqG (φ := isTableD d = true) ((tys_dropG (ty_callE d h1 (by tm_at "tya") (fun c T' hb => ?_))).imp fun σ H n => ⟨?_, n.2⟩) fun q => ?_
  · by_cases c1 : isTableD d = true
    · rw [if_pos c1] at hb; cases hb
    · rw [if_neg c1] at hb
      exact he _ _ _ (by rw [if_neg c1]; exact hb)
  · by_cases c1 : isTableD d = true
    · exact c1
    · have n1 := n.1
      rw [if_neg c1] at n1; cases n1
  · obtain ⟨fs, rs, rfl⟩ := isTableD_form q
    refine tys_guard (φ := (· = (!isTableD e || !decide (((sizeD e : Nat) : Int) = (fs.length : Nat))))) (tt_orB (tt_notB (tt_test (ty_call e h2 (by tm_at "tya")))) fun z => ?_) (fun z' => ?_) fun z' => ?_
    · obtain ⟨gs, ts, rfl⟩ := isTableD_form (d := e) (by simpa using z)
      exact tt_test (ty_op (ty_cb (tya_cons (ty_var rfl) tya_nil) cbt_lenT) (ty_cb (tya_cons (ty_op (ty_var rfl) ty_int opt_ix0) tya_nil) cbt_lenT) opt_neI)
    · have c1 : ¬ (isTableD e = true ∧ sizeD e = widD (PyData.tuple (PyData.tuple fs :: rs))) := fun ⟨c2, c3⟩ => by
        have c4 : ((sizeD e : Nat) : Int) = (fs.length : Nat) := by rw [c3]; rfl
        rw [c2, decide_eq_true c4] at z'
        simp at z'
      exact tys_raise (T := dt K e) (by tm_at "ty") (he _ _ _ (by rw [if_pos q, if_neg c1]))
    · have c1 : isTableD e = true ∧ sizeD e = widD (PyData.tuple (PyData.tuple fs :: rs)) := by
        have z2 := z'.symm
        rw [Bool.or_eq_false_iff] at z2
        refine ⟨by simpa using z2.1, ?_⟩
        have z3 : ((sizeD e : Nat) : Int) = (fs.length : Nat) := by simpa using z2.2
        exact Int.ofNat_inj.mp z3
      obtain ⟨a, b, n, e1, e2, e3, m1, m2, m3, rfl⟩ := h3 q c1.1 c1.2
      obtain ⟨gs, ts, e4⟩ := isTableD_form c1.1
      have e5 : gs.length = n := by rw [← e3]; show _ = widD e; rw [e4]; rfl
      subst e4
      exact TyS.never (tys_retE (by rw [if_pos q, if_pos c1]) (ty_call (a, b, n) ⟨m1, m2, m3⟩ (tya_cons ((ty_var rfl).is e1) (tya_cons ((ty_var rfl).is e2) (tya_cons (Ty.is (ty_cb (tya_cons (ty_op (ty_var rfl) ty_int opt_ix0) tya_nil) cbt_lenT) (by rw [e5])) tya_nil)))))
end
section
variable {P : Program} {w : World} {K : PySem.W.Frag} {mg : Str → Option Value} {base : Heap}
def sp_turned (T : Tx P K mg) : Sp := spE (fun x : PyData × List (List Int) => okT x.1 ∧ (isTableD x.1 = true → ∃ a, x.1 = tabD a ∧ a.length ≤ 1000 ∧ widD x.1 ≤ 1000 ∧ (∀ r ∈ a, r.length = widD x.1) ∧ x.2 = turnI a (widD x.1)))
  (fun x => [dt K x.1]) (fun x => dt K (tabD x.2)) (fun x => if isTableD x.1 = true then none else some (T.a_InvalidTable, dt K x.1))
theorem ok_turned (T : Tx P K mg) : FnOk P w K mg base (L2.CX P w) 6 T.a_turned T.f_turned ["table"] (sp_turned T) := by
  have G_check_table := ok_check_table (w := w) (base := base) T
  have G_turned_of := ok_turned_of (w := w) (base := base) T
  have nd := sc_turned.nd
  refine fn_tyE T.F_turned sc_turned (fun x _ => rfl) fun cdv Ar outer s H E hr => ⟨_, (pss_cons (ps_expr (pe_callS G_check_table (hr.mono (by decide)) rfl T.D_check_table.g T.D_check_table.k T.D_check_table.b (fun σ => passAt (takes_of rfl rfl rfl rfl) σ) (pa_cons (pv 0) pa_nil)))
    (pss_one (ps_ret (pcall G_turned_of (hr.mono (by decide)) T.D_turned_of (pa_cons (pv 0) (pa_cons (k_len (K := K) rfl T.m_len (pa_cons (pe_ix (k_ix (K := K) rfl) (pv 0) pe_int (fun _ _ => rfl)) pa_nil)) pa_nil)))))), fun W x hC he => ?_⟩
  obtain ⟨d, r⟩ := x
  dsimp only at hC he ⊢
  obtain ⟨h1, h3⟩ := hC
  refine tys_seqG (φ := isTableD d = true) ((tys_dropG (ty_callE d h1 (by tm_at "tya") (fun c T' hb => ?_))).imp fun σ H n => ⟨?_, n.2⟩) fun q => ?_
  · by_cases c1 : isTableD d = true
    · rw [if_pos c1] at hb; cases hb
    · rw [if_neg c1] at hb
      exact he _ _ _ (by rw [if_neg c1]; exact hb)
  · by_cases c1 : isTableD d = true
    · exact c1
    · have n1 := n.1
      rw [if_neg c1] at n1; cases n1
  · obtain ⟨a, e1, m1, m2, m3, rfl⟩ := h3 q
    obtain ⟨fs, rs, rfl⟩ := isTableD_form q
    exact TyS.never (tys_retE (by rw [if_pos q]) (ty_call (a, fs.length) ⟨m1, m2, m3⟩ (tya_cons ((ty_var rfl).is e1) (tya_cons (ty_cb (tya_cons (ty_op (ty_var rfl) ty_int opt_ix0) tya_nil) cbt_lenT) tya_nil))))
end
section
variable {P : Program} {w : World} {K : PySem.W.Frag} {mg : Str → Option Value} {base : Heap}
def sp_is_unit (T : Tx P K mg) : Sp := spE (fun x : PyData × Bool => okT x.1 ∧ (isTableD x.1 = true → ∃ a, x.1 = tabD a ∧ a.length ≤ 1000 ∧ x.2 = decide (a = unitI a.length)))
  (fun x => [dt K x.1]) (fun x => dt K (.bool x.2)) (fun x => if isTableD x.1 = true then none else some (T.a_InvalidTable, dt K x.1))
theorem ok_is_unit (T : Tx P K mg) : FnOk P w K mg base (L2.CX P w) 6 T.a_is_unit T.f_is_unit ["table"] (sp_is_unit T) := by
  have G_check_table := ok_check_table (w := w) (base := base) T
  have G_unit_table := ok_unit_table (w := w) (base := base) T
  have nd := sc_is_unit.nd
  refine fn_tyE T.F_is_unit sc_is_unit (fun x _ => rfl) fun cdv Ar outer s H E hr => ⟨_, (pss_cons (ps_expr (pe_callS G_check_table (hr.mono (by decide)) rfl T.D_check_table.g T.D_check_table.k T.D_check_table.b (fun σ => passAt (takes_of rfl rfl rfl rfl) σ) (pa_cons (pv 0) pa_nil)))
    (pss_one (ps_ret (pe_cmpR (k_eq (K := K) rfl hr.units) (pv 0) (pcall G_unit_table (hr.mono (by decide)) T.D_unit_table (pa_cons (k_len (K := K) rfl T.m_len (pa_cons (pv 0) pa_nil)) pa_nil)) (nomark _))))), fun W x hC he => ?_⟩
  obtain ⟨d, r⟩ := x
  dsimp only at hC he ⊢
  obtain ⟨h1, h3⟩ := hC
  refine tys_seqG (φ := isTableD d = true) ((tys_dropG (ty_callE d h1 (by tm_at "tya") (fun c T' hb => ?_))).imp fun σ H n => ⟨?_, n.2⟩) fun q => ?_
  · by_cases c1 : isTableD d = true
    · rw [if_pos c1] at hb; cases hb
    · rw [if_neg c1] at hb
      exact he _ _ _ (by rw [if_neg c1]; exact hb)
  · by_cases c1 : isTableD d = true
    · exact c1
    · have n1 := n.1
      rw [if_neg c1] at n1; cases n1
  · obtain ⟨a, e1, m1, rfl⟩ := h3 q
    subst e1
    refine TyS.never (tys_retE (by rw [if_pos q]) (ty_op (ty_var rfl) (ty_call a.length m1 (tya_cons (Ty.is (ty_cb (tya_cons (ty_var rfl) tya_nil) cbt_lenT) ?_) tya_nil)) opt_eqT))
    rw [List.length_map]
end
section
variable {P : Program} {w : World} {K : PySem.W.Frag} {mg : Str → Option Value} {base : Heap}
abbrev absI (g : Int) : Int := if g < 0 then -g else g
def boxTs (K : PySem.W.Frag) (g : Int) : List Typ := [dt K (.int (absI g)), dt K (.bool (decide ((10 : Int) ^ (18 : Int).toNat ≤ absI g))), dt K (.int (absI g % 2147483629)), dt K (.int 0)]
def sp_law_box (K : PySem.W.Frag) : Sp := spL (fun _ : Int => True) (fun g => [dt K (.int g)]) (boxTs K)
theorem boxTs_box {K : PySem.W.Frag} {M B : Addr → Prop} {g : Int} {xs : List V} {H : Hp} (h : TysV M B (boxTs K g) xs H) : BxL xs := by
  match xs, h with
  | [a, b, c, d], h =>
    obtain ⟨h1, h2, h3, h4, _⟩ := h
    cases h1; cases h2; cases h3; cases h4
    exact ⟨_, _, _, _, rfl, by omega, by omega⟩
theorem ok_law_box (T : Tx P K mg) : FnOk P w K mg base (L2.CX P w) 1 T.a_law_box T.f_law_box ["great"] (sp_law_box K) := by
  have nd := sc_law_box.nd
  refine fn_tyL T.F_law_box sc_law_box (fun x _ => rfl) fun cdv Ar outer s H E hr => ⟨_, (pss_one (ps_ret (pe_lst (pa_cons (bi_abs T.m_abs (pa_cons (pv 0) pa_nil)) (pa_cons (pe_cmpR op_ge (bi_abs T.m_abs (pa_cons (pv 0) pa_nil)) (pe_op op_pow pe_int pe_int) (nomark _)) (pa_cons (pe_op op_mod (bi_int T.m_int (pa_cons (bi_abs T.m_abs (pa_cons (pv 0) pa_nil)) pa_nil)) pe_int) (pa_cons pe_int pa_nil))))))), fun W x hC => ?_⟩
  exact TyS.never (tys_retL (tyl_lst (Ts := boxTs K x) (by unfold boxTs; tm_at "tya") (by show 4 ≤ 1000000; decide)))
end
section
variable {P : Program} {w : World} {K : PySem.W.Frag} {mg : Str → Option Value} {base : Heap}
def sp_law_take (K : PySem.W.Frag) : Sp := spT (fun n : Nat => 0 < n ∧ n ≤ 1000000) (fun n => [bx, dt K (.int (n : Nat))]) (fun n => digT K n)
theorem ix4 (a b c d : V) : atI [a, b, c, d] 0 = some a ∧ atI [a, b, c, d] 1 = some b ∧ atI [a, b, c, d] 2 = some c ∧ atI [a, b, c, d] 3 = some d := ⟨atI_nat (j := 0) rfl, atI_nat (j := 1) rfl, atI_nat (j := 2) rfl, atI_nat (j := 3) rfl⟩
theorem dig_of {K : PySem.W.Frag} {M B : Addr → Prop} {H : Hp} {n : Nat} {i : Int} (h0 : 0 ≤ i) (h1 : i < n) : (digT K n).p M B (.int i) H := by
  refine ⟨i.toNat, by omega, ?_⟩
  have e : ((i.toNat : Nat) : Int) = i := Int.toNat_of_nonneg h0
  show Rp M K H (.int i) (.int ((i.toNat : Nat) : Int))
  rw [e]; exact .int i
theorem ok_law_take (T : Tx P K mg) : FnOk P w K mg base (L2.CX P w) 1 T.a_law_take T.f_law_take ["box", "many"] (sp_law_take K) := by
  have nd := sc_law_take.nd
  refine fn_ty T.F_law_take sc_law_take (fun x _ => rfl) fun cdv Ar outer s H E hr => ⟨_, (pss_cons (ps_if (PW.pt (pw_and (pt_val (pe_ix (k_ix (K := K) rfl) (pv 0) pe_int (fun _ _ => rfl))) (pw_and1 (pt_cmpR op_gt (pe_ix (k_ix (K := K) rfl) (pv 0) pe_int (fun _ _ => rfl)) pe_int (nomark _))))) (pss_cons (pset 2 nd (pe_op op_mod (bi_int T.m_int (pa_cons (pe_ix (k_ix (K := K) rfl) (pv 0) pe_int (fun _ _ => rfl)) pa_nil)) (pv 1)))
    (pss_cons (ps_asg (pe_op op_divA (bi_int T.m_int (pa_cons (pe_ix (k_ix (K := K) rfl) (pv 0) pe_int (fun _ _ => rfl)) pa_nil)) (pv 1)) (pg_sub (pv 0) pe_int set_list))
    (pss_one (ps_ret (pv 2))))) pss_nil)
    (pss_cons (ps_asg (pe_op (k_add (K := K) rfl) (pe_ix (k_ix (K := K) rfl) (pv 0) pe_int (fun _ _ => rfl)) pe_int) (pg_sub (pv 0) pe_int set_list))
    (pss_cons (ps_asg (pe_op op_mod (pe_op (k_add (K := K) rfl) (pe_op (k_add (K := K) rfl) (pe_op op_mulA (pe_ix (k_ix (K := K) rfl) (pv 0) pe_int (fun _ _ => rfl)) pe_int) (pe_op op_mulA pe_int (pe_ix (k_ix (K := K) rfl) (pv 0) pe_int (fun _ _ => rfl)))) pe_int) pe_int) (pg_sub (pv 0) pe_int set_list))
    (pss_one (ps_ret (pe_op op_mod (pe_op op_divA (pe_ix (k_ix (K := K) rfl) (pv 0) pe_int (fun _ _ => rfl)) pe_int) (pv 1))))))), fun W x hC => ?_⟩
  obtain ⟨n0, n1⟩ := hC
  intro σ H c g D dn dr db dc
  obtain ⟨_, g1, g2⟩ : ∃ z : σ.length = 3, (∃ u, σ[0]? = some (some u) ∧ bx.p W.M W.B u H) ∧ (∃ u, σ[1]? = some (some u) ∧ (dt K (.int (x : Nat))).p W.M W.B u H) := ⟨g.length, g.get (i := 0) rfl, g.get (i := 1) rfl⟩
  obtain ⟨u, s0, p, rfl, hB, xs, hH, gr, b, cc, k, rfl, c0, c1⟩ := g1
  obtain ⟨u, s1, hu⟩ := g2
  cases hu
  obtain ⟨i0, i1, i2, i3⟩ := ix4 (.int gr) (.bl b) (.int cc) (.int k)
  have box : BoxAt H p := ⟨_, hH, gr, b, cc, k, rfl, c0, c1⟩
  have gt : ∀ {Q : Bool → Hp → Prop}, Q (b && decide (0 < gr)) H → tAnd (tB (tOp (rIx K) (tVar 0) (tC (.int 1)))) (tTest (tOp (rI0 fun i j => .bl (decide (j < i))) (tOp (rIx K) (tVar 0) (tC (.int 0))) (tC (.int 0)))) σ H Q := fun {Q} q => by
    refine Ev.tbl (ev_ix hH i1 (ev_var s0) ev_c) ?_
    cases b with
    | true => rw [if_pos rfl]; exact Ev.tt (ev_I0 (ev_ix hH i0 (ev_var s0) ev_c) ev_c) (by simpa using q)
    | false => rw [if_neg Bool.false_ne_true]; simpa using q
  refine gt ?_
  cases hb : (b && decide (0 < gr)) with
  | true =>
    rw [if_pos rfl]
    refine ev_I (i := gr) (j := (x : Int)) (by omega) (ev_int (ev_ix hH i0 (ev_var s0) ev_c)) (ev_var s1) _ ?_
    have t0 : (σ.set 2 (some (.int (gr % (x : Int)))))[0]? = some (some (.ref p)) := by rw [List.getElem?_set_ne (by decide)]; exact s0
    have t1 : (σ.set 2 (some (.int (gr % (x : Int)))))[1]? = some (some (.int (x : Int))) := by rw [List.getElem?_set_ne (by decide)]; exact s1
    have t2 : (σ.set 2 (some (.int (gr % (x : Int)))))[2]? = some (some (.int (gr % (x : Int)))) := List.getElem?_set_self (by have gl : σ.length = 3 := g.length; rw [gl]; decide)
    refine ev_put (k := 0) (ev_div (i := gr) (j := (x : Int)) ⟨by omega, ?_⟩ (ev_int (ev_ix hH i0 (ev_var t0) ev_c)) (ev_var t1)) (ev_var t0) ev_c hH rfl ?_
    · have l := Nat.log2_le_self x
      have e : ((x : Int)).natAbs = x := rfl
      rw [e]
      have : x.log2 < 64 := by
        by_cases z : x = 0
        · omega
        · have big : (1000000 : Nat) < 2 ^ 64 := by decide
          exact (Nat.log2_lt z).mpr (by omega)
      omega
    refine ev_var t2 _ (dr _ _ ⟨c.ex.trans (Ex.turn hB box ⟨_, _, _, _, rfl, c0, c1⟩), ?_⟩)
    exact dig_of (Int.emod_nonneg _ (by omega)) (Int.emod_lt_of_pos _ (by omega))
  | false =>
    rw [if_neg Bool.false_ne_true]
    refine ev_put (k := 3) (ev_add (ev_ix hH i3 (ev_var s0) ev_c) ev_c) (ev_var s0) ev_c hH rfl ?_
    obtain ⟨j0, j1, j2, j3⟩ := ix4 (.int gr) (.bl b) (.int cc) (.int (k + 1))
    have hH1 : upd H p (.lst ([V.int gr, .bl b, .int cc, .int k].set 3 (.int (k + 1)))) p = some (.lst [.int gr, .bl b, .int cc, .int (k + 1)]) := upd_same
    refine ev_put (k := 2) (ev_I (by omega) (ev_add (ev_add (ev_mul (.inr ⟨by decide, by decide⟩) (ev_ix hH1 j2 (ev_var s0) ev_c) ev_c) (ev_mul (.inl ⟨by decide, by decide⟩) ev_c (ev_ix hH1 j3 (ev_var s0) ev_c))) ev_c) ev_c) (ev_var s0) ev_c hH1 rfl ?_
    obtain ⟨m0, m1, m2, m3⟩ := ix4 (.int gr) (.bl b) (.int ((cc * 69621 + 1453 * (k + 1) + 41) % 2147483629)) (.int (k + 1))
    refine ev_I (i := (cc * 69621 + 1453 * (k + 1) + 41) % 2147483629 / 64) (j := (x : Int)) (by omega) (ev_div ⟨by decide, by decide⟩ (ev_ix upd_same m2 (ev_var s0) ev_c) ev_c) (ev_var s1) _ (dr _ _ ⟨?_, ?_⟩)
    · have e1 : Ex W.B H (upd H p (.lst [V.int gr, .bl b, .int cc, .int (k + 1)])) := Ex.turn hB box ⟨_, _, _, _, rfl, c0, c1⟩
      exact c.ex.trans (e1.trans (Ex.turn hB ⟨_, upd_same, _, _, _, _, rfl, c0, c1⟩ ⟨_, _, _, _, rfl, by omega, by omega⟩))
    · exact dig_of (Int.emod_nonneg _ (by omega)) (Int.emod_lt_of_pos _ (by omega))
end
section
variable {P : Program} {w : World} {K : PySem.W.Frag} {mg : Str → Option Value} {base : Heap}
def intT (K : PySem.W.Frag) : Typ := exT fun i : Int => dt K (.int i)
/-- the script, as the law is called with it: no one may write to it -/
def SqF (K : PySem.W.Frag) (H : Hp) (a : Addr) (xs : List V) : Prop :=
  (∃ o, H a = some (.frz o (.lst xs))) ∨ ∃ (o : Obj) (its : Array Value) (n : Nat), K.lookup a = some o ∧ o.cls = .type "list" ∧ o.dict = none ∧ o.data = .seq its n ∧ its.size ≤ sizeLine ∧ Vals xs its.toList
theorem SqF.sq {K : PySem.W.Frag} {H : Hp} {a : Addr} {xs : List V} (h : SqF K H a xs) : SqL K H a xs := h.elim (fun ⟨o, h⟩ => .inl (.inr ⟨o, h⟩)) .inr
def scrT (K : PySem.W.Frag) (ns : List Int) : Typ := ⟨fun _ _ v H => ∃ a, v = .ref a ∧ SqF K H a (ns.map V.int), fun e ⟨a, h1, h2⟩ => ⟨a, h1, h2.elim (fun ⟨o, h⟩ => .inl ⟨o, e.keepT h fun _ z => nomatch z⟩) .inr⟩, fun _ h => h, fun h => h⟩
theorem cbt_lenScr {W : Wd} {K : PySem.W.Frag} {ns : List Int} : CbT W (rLen K) [scrT K ns] (dt K (.int (ns.length : Nat))) := fun us H c hu Q q => by
  obtain ⟨v, rfl, a, rfl, h⟩ := hu.one
  exact ⟨_, ns.length, rfl, .inl ⟨_, h.sq, by rw [List.length_map]⟩, q _ H (Ex.refl _ _) (.int _)⟩
theorem opt_ixScr {W : Wd} {K : PySem.W.Frag} {ns : List Int} {n : Nat} {z : Int} (e : ns[n]? = some z) : OpT W (rIx K) (scrT K ns) (dt K (.int (n : Nat))) (dt K (.int z)) := fun u v H c ⟨a, h1, h2⟩ hv Q q => by
  subst h1
  cases hv
  exact .inl ⟨a, _, (n : Int), .int z, rfl, rfl, h2.sq, atI_nat (by rw [List.getElem?_map, e]; rfl), q _ H (Ex.refl _ _) (.int _)⟩
theorem tys_of_ints {M B : Addr → Prop} {K : PySem.W.Frag} {H : Hp} : ∀ ns : List Int, TysV M B (ns.map fun n => dt K (.int n)) (ns.map V.int) H
  | [] => True.intro
  | n :: ns => ⟨.int n, tys_of_ints ns⟩
theorem cutV_ints (ns : List Int) (lo hi : Option Int) : cutV (ns.map V.int) lo hi = (cutD ns lo hi).map V.int := by
  unfold cutV cutD
  rw [List.length_map, ← List.map_drop, ← List.map_take]
theorem ty_slScr {W : Wd} {Γ : Gam} {K : PySem.W.Frag} {ns : List Int} {te : TE} {tl th : TO} {lo hi : Option Int} (h : Ty W Γ te (scrT K ns)) (hl : TyO W Γ tl lo) (hh : TyO W Γ th hi) : Ty W Γ (tSl (rSlAll K) te tl th) (lstT ((cutD ns lo hi).map fun n => dt K (.int n))) := fun σ H c g Q q =>
  h σ H c g _ fun v H1 e1 hv => hl σ H1 (c.up e1) (g.up e1.toW) _ fun H2 e2 => hh σ H2 (c.up (e1.trans e2)) (g.up (e1.trans e2).toW) _ fun H3 e3 => by
    obtain ⟨a, rfl, h2⟩ := (scrT K ns).up (e2.trans e3).toW hv
    have e13 := e1.trans (e2.trans e3)
    exact .inl ⟨a, _, rfl, h2.sq, fun p hp => q _ _ (e13.trans (Ex.new hp)) ⟨p, _, rfl, c.nm (e13.free hp), upd_same, by rw [cutV_ints]; exact tys_of_ints _⟩⟩
def sp_law_cell (K : PySem.W.Frag) : Sp := spT (fun x : List Int × Nat => x.2 ≤ 1000) (fun x => [scrT K x.1, dt K (.int (x.2 : Nat))]) (fun _ => intT K)
theorem ok_law_cell (T : Tx P K mg) : FnOk P w K mg base (L2.CX P w) 1 T.a_law_cell T.f_law_cell ["script", "k"] (sp_law_cell K) := by
  have nd := sc_law_cell.nd
  refine fn_ty T.F_law_cell sc_law_cell (fun x _ => rfl) fun cdv Ar outer s H E hr => ⟨_, (pss_one (ps_ret (pe_ifExp (pt_cmpR op_lt (pv 1) (k_len (K := K) rfl T.m_len (pa_cons (pv 0) pa_nil)) (nomark _)) (pe_ix (k_ix (K := K) rfl) (pv 0) (pv 1) (fun _ _ => rfl)) (pe_op (k_add (K := K) rfl) (pe_op op_mulA pe_int (pv 1)) (pe_op op_mod (bi_int T.m_int (pa_cons (k_sum (K := K) rfl T.m_sum (pa_cons (pe_slice (k_sl (K := K) rfl) (pv 0) po_none (po_some pe_int)) pa_nil)) pa_nil)) pe_int))))), fun W x hC => ?_⟩
  obtain ⟨l, n⟩ := x
  dsimp only at hC
  refine TyS.never (tys_retW (ty_if (φ := (· = decide ((n : Int) < (l.length : Nat)))) (tt_test (ty_op (ty_var rfl) (ty_cb (tya_cons (ty_var rfl) tya_nil) cbt_lenScr) opt_lt)) (fun z => ?_) fun z => ?_))
  · have hn : n < l.length := by
      have z1 := of_decide_eq_true z.symm
      omega
    exact Ty.ex (l[n]) (ty_op (ty_var rfl) (ty_var rfl) (opt_ixScr (List.getElem?_eq_getElem hn)))
  · exact Ty.ex (A := fun i : Int => dt K (.int i)) _ (ty_op (ty_op ty_int (ty_var rfl) (opt_mul (.inl ⟨by decide, by decide⟩))) (ty_op (ty_cb (tya_cons (ty_cb (tya_cons (ty_slScr (ty_var rfl) tyo_none (tyo_some (ty_int (K := K)))) tya_nil) cbt_sum) tya_nil) cbt_intI) ty_int (opt_mod (by decide))) opt_add)
end
section
variable {P : Program} {w : World} {K : PySem.W.Frag} {mg : Str → Option Value} {base : Heap}
/-- no greater than ten to the 39th -/
def Ent (i : Int) : Prop := i.natAbs ≤ 10 ^ 39
def entT (K : PySem.W.Frag) : Typ := exT fun i : Int => gd (Ent i) (dt K (.int i))
theorem ty_dig {W : Wd} {Γ : Gam} {K : PySem.W.Frag} {te : TE} {n k : Nat} (h : Ty W Γ te (dt K (.int (k : Nat)))) (hk : k < n) : Ty W Γ te (digT K n) := h.sub fun v H _ z => ⟨k, hk, z⟩
theorem ty_ent {W : Wd} {Γ : Gam} {K : PySem.W.Frag} {te : TE} {i : Int} (h : Ty W Γ te (dt K (.int i))) (hk : Ent i) : Ty W Γ te (entT K) := h.sub fun v H _ z => ⟨i, hk, z⟩
theorem any_sub {W : Wd} {Γ : Gam} {te : TE} {T : Typ} {Ts : List Typ} (h : Ty W Γ te (anyT Ts)) (k : ∀ n, n < Ts.length → ∀ v H, (Ts.getD n (isV .non)).at W v H → T.at W v H) : Ty W Γ te T := h.sub fun v H _ ⟨n, hn, z⟩ => k n hn v H z
theorem rep_getD {T : Typ} {n m : Nat} (h : n < m) : (List.replicate m T).getD n (isV .non) = T := by
  rw [List.getD_eq_getElem?_getD, List.getElem?_replicate, if_pos h]; rfl
def sp_law_entry (K : PySem.W.Frag) : Sp := spT (fun _ : Unit => True) (fun _ => [bx]) (fun _ => entT K)
theorem ok_law_entry (T : Tx P K mg) : FnOk P w K mg base (L2.CX P w) 2 T.a_law_entry T.f_law_entry ["box"] (sp_law_entry K) := by
  have G_law_take := ok_law_take (w := w) (base := base) T
  have nd := sc_law_entry.nd
  refine fn_ty T.F_law_entry sc_law_entry (fun x _ => rfl) fun cdv Ar outer s H E hr => ⟨_, (pss_one (ps_ret (pe_ix (k_ix (K := K) rfl) (pe_lst (pa_cons (pe_op op_sub (pcall G_law_take (hr.mono (by decide)) T.D_law_take (pa_cons (pv 0) (pa_cons pe_int pa_nil))) pe_int) (pa_cons pe_int (pa_cons (pe_op op_sub (pe_op op_pow pe_int pe_int) (pcall G_law_take (hr.mono (by decide)) T.D_law_take (pa_cons (pv 0) (pa_cons pe_int pa_nil)))) (pa_cons (pe_op op_sub pe_int (pe_op op_pow pe_int pe_int)) pa_nil))))) (pe_ix (k_ix (K := K) rfl) (pe_lst (pa_cons pe_int (pa_cons pe_int (pa_cons pe_int (pa_cons pe_int (pa_cons pe_int (pa_cons pe_int (pa_cons pe_int (pa_cons pe_int pa_nil))))))))) (pcall G_law_take (hr.mono (by decide)) T.D_law_take (pa_cons (pv 0) (pa_cons pe_int pa_nil))) (fun _ _ => rfl)) (fun _ _ => rfl)))), fun W x hC => ?_⟩
  have dig : ∀ n : Nat, 0 < n → n ≤ 1000000 → ∀ te, Ty W (List.map some [bx] ++ List.replicate 0 none) te (dt K (.int (n : Nat))) → Ty W (List.map some [bx] ++ List.replicate 0 none) (tCall (sp_law_take K) [] E0 (tCons (tVar 0) (tCons te tNil))) (digT K n) := fun n h0 h1 te h => ty_call n ⟨h0, h1⟩ (tya_cons (ty_var rfl) (tya_cons h tya_nil))
  refine TyS.never (tys_retW (any_sub (Ts := List.replicate 4 (entT K)) (ty_pick (n := 4) (tyl_lst (Ts := List.replicate 4 (entT K)) ?_ (by rw [List.length_replicate]; decide)).ty ?_ (by rw [List.length_replicate]; decide)) fun n hn v H z => by rw [rep_getD (by simpa using hn)] at z; exact z))
  · refine tya_cons ?_ (tya_cons (ty_ent ty_int ?_) (tya_cons ?_ (tya_cons (ty_ent (ty_op ty_int (ty_op ty_int ty_int (opt_pow ⟨by decide, by decide, by decide⟩)) opt_sub) ?_) tya_nil)))
    · exact ty_opX (α := Nat) (β := Int) (A := fun k => gd (k < 13) (dt K (.int (k : Nat)))) (P := fun i => gd (Ent i) (dt K (.int i))) (dig 13 (by decide) (by decide) _ (Ty.is ty_int rfl)) (ty_int (n := 6)) fun k => ⟨(k : Int) - 6, OpT.gdl fun hk => fun u v H c hu hv Q q => opt_sub u v H c hu hv Q fun w H1 e z => q w H1 e ⟨by unfold Ent; omega, z⟩⟩
    · unfold Ent; decide
    · exact ty_opY (α := Nat) (β := Int) (C := fun k => gd (k < 99) (dt K (.int (k : Nat)))) (P := fun i => gd (Ent i) (dt K (.int i))) (ty_op ty_int ty_int (opt_pow ⟨by decide, by decide, by decide⟩)) (dig 99 (by decide) (by decide) _ (Ty.is ty_int rfl)) fun k => ⟨(10 : Int) ^ (39 : Int).toNat - (k : Int), OpT.gdr fun hk => fun u v H c hu hv Q q => opt_sub u v H c hu hv Q fun w H1 e z => q w H1 e ⟨by
        have e : (10 : Int) ^ (39 : Int).toNat = 1000000000000000000000000000000000000000 := by decide
        unfold Ent; rw [e]; omega, z⟩⟩
    · have e : (0 : Int) - (10 : Int) ^ (20 : Int).toNat = -100000000000000000000 := by decide
      unfold Ent; rw [e]; decide
  · refine any_sub (Ts := List.replicate 8 (digT K 4)) (ty_pick (n := 8) (tyl_lst (Ts := List.replicate 8 (digT K 4)) ?_ (by rw [List.length_replicate]; decide)).ty (dig 8 (by decide) (by decide) _ (Ty.is ty_int rfl)) (by rw [List.length_replicate]; decide)) fun n hn v H z => by rw [rep_getD (by simpa using hn)] at z; exact z
    exact tya_cons (ty_dig (k := 0) ty_int (by decide)) (tya_cons (ty_dig (k := 0) ty_int (by decide)) (tya_cons (ty_dig (k := 0) ty_int (by decide)) (tya_cons (ty_dig (k := 0) ty_int (by decide)) (tya_cons (ty_dig (k := 1) ty_int (by decide)) (tya_cons (ty_dig (k := 1) ty_int (by decide)) (tya_cons (ty_dig (k := 2) ty_int (by decide)) (tya_cons (ty_dig (k := 3) ty_int (by decide)) tya_nil)))))))
end
section
variable {P : Program} {w : World} {K : PySem.W.Frag} {mg : Str → Option Value} {base : Heap}
/-- a line of entries -/
def LinOk (n : Nat) (l : List Int) : Prop := l.length = n ∧ ∀ v ∈ l, Ent v
def lineT (K : PySem.W.Frag) (n : Nat) : Typ := exT fun l : List Int => gd (LinOk n l) (dt K (intsD l))
theorem map_const {α : Type} (T : Typ) : ∀ l : List α, l.map (fun _ => T) = List.replicate l.length T
  | [] => rfl
  | _ :: l => by rw [List.map_cons, map_const T l]; rfl
def sp_law_line (K : PySem.W.Frag) : Sp := spT (fun n : Nat => n ≤ 1000) (fun n => [bx, dt K (.int (n : Nat))]) (fun n => lineT K n)
theorem ok_law_line (T : Tx P K mg) : FnOk P w K mg base (L2.CX P w) 3 T.a_law_line T.f_law_line ["box", "width"] (sp_law_line K) := by
  have G_law_entry := ok_law_entry (w := w) (base := base) T
  have nd := sc_law_line.nd
  refine fn_ty T.F_law_line sc_law_line (fun x _ => rfl) fun cdv Ar outer s H E hr => ⟨_, (pss_one (ps_ret (k_tuple (K := K) rfl T.m_tuple (pa_cons (plc [("k", 2)] nd (pi_range1 rfl T.m_range (pa_cons (pv 1) pa_nil)) (fun _ _ _ _ _ => (pgn 2 nd)) (fun _ _ _ _ _ => pts_nil) (fun _ _ _ _ _ => (pcall G_law_entry (hr.mono (by decide)) T.D_law_entry (pa_cons (pv 0) pa_nil))) (by kernel_rfl)) pa_nil)))), fun W x hC => ?_⟩
  have h : TyL W (List.map some [bx, dt K (.int (x : Nat))] ++ List.replicate 1 none) (tLc (iRng1 (tCons (tVar 1) tNil)) (gName 2) tYes (tCall (sp_law_entry K) [] E0 (tCons (tVar 0) tNil)) [2]) (List.replicate x (entT K)) := by
    have h2 : x ≤ 1000 := hC
    have z : TyL W (List.map some [bx, dt K (.int (x : Nat))] ++ List.replicate 1 none) (tLc (iRng1 (tCons (tVar 1) tNil)) (gName 2) tYes (tCall (sp_law_entry K) [] E0 (tCons (tVar 0) tNil)) [2]) ((List.range x).map fun _ => entT K) :=
      tyl_map (fun i : Nat => dt K (.int (i : Nat))) (fun _ => entT K) (tyi_rng (n := x) (tya_cons (ty_var rfl) tya_nil) (by omega)) (by rw [List.length_range]; omega) (by decide) fun W' i hi => ty_call () trivial (tya_cons (ty_var rfl) tya_nil)
    rw [map_const, List.length_range] at z
    exact z
  exact TyS.never (tys_retW ((TyL.exs (K := K) (A := fun i : Int => dt K (.int i)) (φ := Ent) h).sub fun v H _ ⟨l, k, z⟩ => ⟨l, k, tupT_data (ds := l.map .int) (by rw [List.map_map]; exact z)⟩))
end
section
variable {P : Program} {w : World} {K : PySem.W.Frag} {mg : Str → Option Value} {base : Heap}
def TabOk (h n : Nat) (m : List (List Int)) : Prop := m.length = h ∧ ∀ l ∈ m, LinOk n l
def tableT (K : PySem.W.Frag) (h n : Nat) : Typ := exT fun m : List (List Int) => gd (TabOk h n m) (dt K (tabD m))
def sp_law_table (K : PySem.W.Frag) : Sp := spT (fun x : Nat × Nat => x.1 ≤ 1000 ∧ x.2 ≤ 1000) (fun x => [bx, dt K (.int (x.1 : Nat)), dt K (.int (x.2 : Nat))]) (fun x => tableT K x.1 x.2)
theorem ok_law_table (T : Tx P K mg) : FnOk P w K mg base (L2.CX P w) 4 T.a_law_table T.f_law_table ["box", "height", "width"] (sp_law_table K) := by
  have G_law_line := ok_law_line (w := w) (base := base) T
  have nd := sc_law_table.nd
  refine fn_ty T.F_law_table sc_law_table (fun x _ => rfl) fun cdv Ar outer s H E hr => ⟨_, (pss_one (ps_ret (k_tuple (K := K) rfl T.m_tuple (pa_cons (plc [("k", 3)] nd (pi_range1 rfl T.m_range (pa_cons (pv 1) pa_nil)) (fun _ _ _ _ _ => (pgn 3 nd)) (fun _ _ _ _ _ => pts_nil) (fun _ _ _ _ _ => (pcall G_law_line (hr.mono (by decide)) T.D_law_line (pa_cons (pv 0) (pa_cons (pv 2) pa_nil)))) (by kernel_rfl)) pa_nil)))), fun W x hC => ?_⟩
  obtain ⟨m, n⟩ := x
  obtain ⟨h1, h2⟩ : m ≤ 1000 ∧ n ≤ 1000 := hC
  have h : TyL W (List.map some [bx, dt K (.int (m : Nat)), dt K (.int (n : Nat))] ++ List.replicate 1 none) (tLc (iRng1 (tCons (tVar 1) tNil)) (gName 3) tYes (tCall (sp_law_line K) [] E0 (tCons (tVar 0) (tCons (tVar 2) tNil))) [3]) (List.replicate m (lineT K n)) := by
    have z : TyL W (List.map some [bx, dt K (.int (m : Nat)), dt K (.int (n : Nat))] ++ List.replicate 1 none) (tLc (iRng1 (tCons (tVar 1) tNil)) (gName 3) tYes (tCall (sp_law_line K) [] E0 (tCons (tVar 0) (tCons (tVar 2) tNil))) [3]) ((List.range m).map fun _ => lineT K n) :=
      tyl_map (fun i : Nat => dt K (.int (i : Nat))) (fun _ => lineT K n) (tyi_rng (n := m) (tya_cons (ty_var rfl) tya_nil) (by omega)) (by rw [List.length_range]; omega) (by decide) fun W' i hi => ty_call n h2 (tya_cons (ty_var rfl) (tya_cons (ty_var rfl) tya_nil))
    rw [map_const, List.length_range] at z
    exact z
  exact TyS.never (tys_retW ((TyL.exs (K := K) (A := fun l : List Int => dt K (intsD l)) (φ := LinOk n) h).sub fun v H _ ⟨l, k, z⟩ => ⟨l, k, tupT_data (ds := l.map intsD) (by rw [List.map_map]; exact z)⟩))
end
section
variable {P : Program} {w : World} {K : PySem.W.Frag} {mg : Str → Option Value} {base : Heap}
def sp_law_dot (K : PySem.W.Frag) : Sp := spT (fun x : List Int × List Int => sml x.1 ∧ sml x.2) (fun x => [dt K (intsD x.1), dt K (intsD x.2)]) (fun x => dt K (.int (dotI x.1 x.2)))
theorem sum_snoc {α : Type} {f : α → Int} {l : List α} {i : Nat} {x : α} (h : l[i]? = some x) : ((l.take (i + 1)).map f).sum = ((l.take i).map f).sum + f x := by
  rw [take_snoc h, List.map_append, List.sum_append, List.map_singleton, List.sum_singleton]
theorem ok_law_dot (T : Tx P K mg) : FnOk P w K mg base (L2.CX P w) 1 T.a_law_dot T.f_law_dot ["one", "other"] (sp_law_dot K) := by
  have nd := sc_law_dot.nd
  refine fn_ty T.F_law_dot sc_law_dot (fun x _ => rfl) fun cdv Ar outer s H E hr => ⟨_, (pss_cons (pset 2 nd pe_int)
    (pss_cons (ps_for PassesOwn.never rfl (k_izip (K := K) rfl T.m_zip (pa_cons (pv 0) (pa_cons (pv 1) pa_nil))) (k_gtup (K := K) (n := 2) rfl (pgs_cons (pgn 3 nd) (pgs_cons (pgn 4 nd) pgs_nil))) (pss_one (pset 2 nd (pe_op (k_add (K := K) rfl) (pv 2) (pe_op op_mulA (pv 3) (pv 4))))))
    (pss_one (ps_ret (pv 2))))), fun W x hC => ?_⟩
  obtain ⟨a, b⟩ := x
  dsimp only at hC
  obtain ⟨h1, h2⟩ := hC
  refine tys_seqE (W' := W) (Γ' := [some (dt K (intsD a)), some (dt K (intsD b)), some (dt K (.int 0)), none, none]) (tys_set ty_int) ?_
  refine tys_seqE (W' := W) (Γ' := [some (dt K (intsD a)), some (dt K (intsD b)), some (dt K (.int (dotI a b))), none, none]) ?_ (TyS.never (tys_retW (ty_var rfl)))
  have hi : TyI W [some (dt K (intsD a)), some (dt K (intsD b)), some (dt K (.int 0)), none, none] (RZ.iZipA K (tCons (tVar 0) (tCons (tVar 1) tNil))) ((a.zip b).map fun p => tupT K [dt K (.int p.1), dt K (.int p.2)]) := tyi_zipA (f := .int) (h := .int) (ty_var rfl) (ty_var rfl)
  refine tys_for (Wi := fun _ (_ : Unit) => W) (Γi := fun i (_ : Unit) => [some (dt K (intsD a)), some (dt K (intsD b)), some (dt K (.int (((a.zip b).take i).map fun p => p.1 * p.2).sum)), none, none]) () hi (fun _ _ => Wd.Like.refl W) (fun σ H g => g) (fun i T x hT => ?_) (fun x σ H g => ?_)
  · rw [List.getElem?_map] at hT
    cases hp : (a.zip b)[i]? with
    | none => rw [hp] at hT; cases hT
    | some p =>
      rw [hp] at hT
      cases hT
      have mp := List.mem_of_getElem? hp
      have m1 := h1.2 p.1 (List.of_mem_zip mp).1
      have m2 := h2.2 p.2 (List.of_mem_zip mp).2
      refine ⟨_, tyg_pair, ?_⟩
      rw [sum_snoc hp]
      refine TyS.imp (tys_set (ty_op (ty_var rfl) (ty_op (ty_var rfl) (ty_var rfl) (opt_mulW (sm_mul m1 m2))) opt_add)) (fun σ H g => ⟨(), g.1, EnvL.less ?_ g.2⟩)
      exact ⟨fun _ _ _ _ h => h, fun _ _ _ _ h => h, fun _ _ _ _ h => h, True.intro⟩
  · rw [List.length_map, List.take_length] at g
    exact g
end
section
variable {P : Program} {w : World} {K : PySem.W.Frag} {mg : Str → Option Value} {base : Heap}
def sp_law_applied (K : PySem.W.Frag) : Sp := spT (fun x : List (List Int) × List Int => smt x.1 ∧ sml x.2) (fun x => [dt K (tabD x.1), dt K (intsD x.2)]) (fun x => dt K (intsD (applyI x.1 x.2)))
theorem ok_law_applied (T : Tx P K mg) : FnOk P w K mg base (L2.CX P w) 2 T.a_law_applied T.f_law_applied ["table", "line"] (sp_law_applied K) := by
  have G_law_dot := ok_law_dot (w := w) (base := base) T
  have nd := sc_law_applied.nd
  refine fn_ty T.F_law_applied sc_law_applied (fun x _ => rfl) fun cdv Ar outer s H E hr => ⟨_, (pss_one (ps_ret (k_tuple (K := K) rfl T.m_tuple (pa_cons (plc [("row", 2)] nd (k_itup (K := K) rfl (pv 0)) (fun _ _ _ _ _ => (pgn 2 nd)) (fun _ _ _ _ _ => pts_nil) (fun _ _ _ _ _ => (pcall G_law_dot (hr.mono (by decide)) T.D_law_dot (pa_cons (pv 2) (pa_cons (pv 1) pa_nil)))) (by kernel_rfl)) pa_nil)))), fun W x hC => ?_⟩
  obtain ⟨t, l⟩ := x
  dsimp only at hC
  obtain ⟨h1, h2⟩ := hC
  refine TyS.never (tys_retW (Ty.is (ty_tupG (f := fun r => .int (dotI r l)) (xs := t) ?_) ?_))
  · exact tyl_map (fun r => dt K (intsD r)) (fun r => dt K (.int (dotI r l))) (tyi_tupA (f := intsD) (by tm_at "ty")) (by have := h1.1; omega) (by decide) fun W' r hr => ty_call (r, l) ⟨h1.2 r hr, h2⟩ (by tm_at "tya")
  · rw [intsD, applyI, List.map_map]; rfl
end
section
variable {P : Program} {w : World} {K : PySem.W.Frag} {mg : Str → Option Value} {base : Heap}
def sp_law_columns (K : PySem.W.Frag) : Sp := spT (fun x : List (List Int) × Nat => x.1 ≠ [] ∧ x.1.length ≤ 1000 ∧ x.2 ≤ 1000 ∧ ∀ r ∈ x.1, r.length = x.2) (fun x => [dt K (tabD x.1)]) (fun x => dt K (tabD (turnI x.1 x.2)))
theorem ok_law_columns (T : Tx P K mg) : FnOk P w K mg base (L2.CX P w) 1 T.a_law_columns T.f_law_columns ["table"] (sp_law_columns K) := by
  have nd := sc_law_columns.nd
  refine fn_ty T.F_law_columns sc_law_columns (fun x _ => rfl) fun cdv Ar outer s H E hr => ⟨_, (pss_one (ps_ret (k_tuple (K := K) rfl T.m_tuple (pa_cons (plc [("k", 2)] nd (pi_range1 rfl T.m_range (pa_cons (k_len (K := K) rfl T.m_len (pa_cons (pe_ix (k_ix (K := K) rfl) (pv 0) pe_int (fun _ _ => rfl)) pa_nil)) pa_nil)) (fun _ _ _ _ _ => (pgn 2 nd)) (fun _ _ _ _ _ => pts_nil) (fun _ _ _ _ _ => (k_tuple (K := K) rfl T.m_tuple (pa_cons (plc [("row", 1)] nd (k_itup (K := K) rfl (pv 0)) (fun _ _ _ _ _ => (pgn 1 nd)) (fun _ _ _ _ _ => pts_nil) (fun _ _ _ _ _ => (pe_ix (k_ix (K := K) rfl) (pv 1) (pv 2) (fun _ _ => rfl))) (by kernel_rfl)) pa_nil))) (by kernel_rfl)) pa_nil)))), fun W x hC => ?_⟩
  obtain ⟨t, n⟩ := x
  dsimp only at hC
  obtain ⟨h0, h1, h2, h3⟩ := hC
  obtain ⟨f, rs, rfl⟩ : ∃ f rs, t = f :: rs := by
    cases t with
    | nil => exact absurd rfl h0
    | cons f rs => exact ⟨f, rs, rfl⟩
  have hf : f.length = n := h3 f (List.mem_cons_self ..)
  refine TyS.never (tys_retW (Ty.is (ty_tupG (f := fun i : Nat => intsD ((f :: rs).map fun r => r.getD i 0)) (xs := List.range n) ?_) ?_))
  · have hi : TyI W (List.map some [dt K (tabD (f :: rs))] ++ List.replicate 2 none) (iRng1 (tCons (tCB (rLen K) (tCons (tOp (rIx K) (tVar 0) (tC (.int 0))) tNil)) tNil)) ((List.range n).map fun i : Nat => dt K (.int (i : Nat))) :=
      tyi_rng (n := n) (tya_cons (Ty.is (ty_cb (tya_cons (ty_op (ty_var rfl) ty_int (opt_ix0 (d := intsD f) (ds := rs.map intsD))) tya_nil) cbt_lenT) (by rw [List.length_map, hf])) tya_nil) (by omega)
    have hs : ∀ (W' : Wd) (i : Nat), i ∈ List.range n → Ty W' ((wipeG (List.map some [dt K (tabD (f :: rs))] ++ List.replicate 2 none) [2]).set 2 (some (dt K (.int (i : Nat))))) (tCB (rTupOf K) (tCons (tLc (iTup K (tVar 0)) (gName 1) tYes (tOp (rIx K) (tVar 1) (tVar 2)) [1]) tNil)) (dt K (intsD ((f :: rs).map fun r => r.getD i 0))) := fun W' i hi => by
      have hi' : i < n := List.mem_range.mp hi
      refine Ty.is (ty_tupG (f := fun r : List Int => .int (r.getD i 0)) (xs := f :: rs) ?_) ?_
      · refine tyl_map (fun r => dt K (intsD r)) (fun r => dt K (.int (r.getD i 0))) (tyi_tupA (f := intsD) (ty_var rfl)) (by omega) (by decide) fun W'' r hr => ?_
        have e : r.length = n := h3 r hr
        exact ty_op (ty_var rfl) (ty_var rfl) (opt_ixTN (n := i) (by rw [List.getElem?_map, List.getElem?_eq_getElem (by omega), List.getD_eq_getElem?_getD, List.getElem?_eq_getElem (by omega)]; rfl))
      · rw [intsD, List.map_map]; rfl
    exact tyl_map _ _ hi (by rw [List.length_range]; omega) (by decide) hs
  · rw [tabD, turnI, List.map_map]; rfl
end
section
variable {P : Program} {w : World} {K : PySem.W.Frag} {mg : Str → Option Value} {base : Heap}
def mulI (a b : List (List Int)) (n : Nat) : List (List Int) := a.map fun r => (turnI b n).map fun c => dotI r c
theorem turn_sml {b : List (List Int)} {n : Nat} (h : smt b) (hn : n ≤ 1000) : smt (turnI b n) := by
  refine ⟨by rw [turnI, List.length_map, List.length_range]; exact hn, fun l hl => ?_⟩
  obtain ⟨i, _, rfl⟩ := List.mem_map.mp hl
  refine ⟨by rw [List.length_map]; exact h.1, fun v hv => ?_⟩
  obtain ⟨r, hr, rfl⟩ := List.mem_map.mp hv
  rw [List.getD_eq_getElem?_getD]
  cases e : r[i]? with
  | none => exact (Nat.two_pow_pos 4096 : (0 : Int).natAbs < 2 ^ 4096)
  | some z => exact (h.2 r hr).2 z (List.mem_of_getElem? e)
def sp_law_times (K : PySem.W.Frag) : Sp := spT (fun x : List (List Int) × List (List Int) × Nat => smt x.1 ∧ smt x.2.1 ∧ x.2.1 ≠ [] ∧ x.2.2 ≤ 1000 ∧ ∀ r ∈ x.2.1, r.length = x.2.2) (fun x => [dt K (tabD x.1), dt K (tabD x.2.1)]) (fun x => dt K (tabD (mulI x.1 x.2.1 x.2.2)))
theorem ok_law_times (T : Tx P K mg) : FnOk P w K mg base (L2.CX P w) 2 T.a_law_times T.f_law_times ["one", "other"] (sp_law_times K) := by
  have G_law_dot := ok_law_dot (w := w) (base := base) T
  have G_law_columns := ok_law_columns (w := w) (base := base) T
  have nd := sc_law_times.nd
  refine fn_ty T.F_law_times sc_law_times (fun x _ => rfl) fun cdv Ar outer s H E hr => ⟨_, (pss_one (ps_ret (k_tuple (K := K) rfl T.m_tuple (pa_cons (plc [("row", 3)] nd (k_itup (K := K) rfl (pv 0)) (fun _ _ _ _ _ => (pgn 3 nd)) (fun _ _ _ _ _ => pts_nil) (fun _ _ _ _ _ => (k_tuple (K := K) rfl T.m_tuple (pa_cons (plc [("column", 2)] nd (k_itup (K := K) rfl (pcall G_law_columns (hr.mono (by decide)) T.D_law_columns (pa_cons (pv 1) pa_nil))) (fun _ _ _ _ _ => (pgn 2 nd)) (fun _ _ _ _ _ => pts_nil) (fun _ _ _ _ _ => (pcall G_law_dot (hr.mono (by decide)) T.D_law_dot (pa_cons (pv 3) (pa_cons (pv 2) pa_nil)))) (by kernel_rfl)) pa_nil))) (by kernel_rfl)) pa_nil)))), fun W x hC => ?_⟩
  obtain ⟨a, b, n⟩ := x
  dsimp only at hC
  obtain ⟨h1, h2, h3, h4, h5⟩ := hC
  have m2 := turn_sml h2 h4
  refine TyS.never (tys_retW (Ty.is (ty_tupG (f := fun r => intsD ((turnI b n).map fun c => dotI r c)) (xs := a) ?_) ?_))
  · have hs : ∀ (W' : Wd) (r : List Int), r ∈ a → Ty W' ((wipeG (List.map some [dt K (tabD a), dt K (tabD b)] ++ List.replicate 2 none) [3]).set 3 (some (dt K (intsD r)))) (tCB (rTupOf K) (tCons (tLc (iTup K (tCall (sp_law_columns K) [] E0 (tCons (tVar 1) tNil))) (gName 2) tYes (tCall (sp_law_dot K) [] E0 (tCons (tVar 3) (tCons (tVar 2) tNil))) [2]) tNil)) (dt K (intsD ((turnI b n).map fun c => dotI r c))) := fun W' r hr => by
      refine Ty.is (ty_tupG (f := fun c : List Int => .int (dotI r c)) (xs := turnI b n) ?_) ?_
      · refine tyl_map (fun r => dt K (intsD r)) (fun c => dt K (.int (dotI r c))) (tyi_tupA (f := intsD) (ty_call (b, n) ⟨h3, h2.1, h4, h5⟩ (tya_cons (ty_var rfl) tya_nil))) (Nat.le_trans m2.1 (by decide)) (by decide) fun W'' c hc => ?_
        exact ty_call (r, c) ⟨h1.2 r hr, m2.2 c hc⟩ (tya_cons (ty_var rfl) (tya_cons (ty_var rfl) tya_nil))
      · rw [intsD, List.map_map]; rfl
    exact tyl_map _ _ (tyi_tupA (f := intsD) (ty_var rfl)) (Nat.le_trans h1.1 (by decide)) (by decide) hs
  · rw [tabD, mulI, List.map_map]; rfl
end
section
variable {P : Program} {w : World} {K : PySem.W.Frag} {mg : Str → Option Value} {base : Heap}
def sp_law_unit (K : PySem.W.Frag) : Sp := spT (fun n : Nat => n ≤ 1000) (fun n => [dt K (.int (n : Nat))]) (fun n => dt K (tabD (unitI n)))
theorem ok_law_unit (T : Tx P K mg) : FnOk P w K mg base (L2.CX P w) 1 T.a_law_unit T.f_law_unit ["many"] (sp_law_unit K) := by
  have nd := sc_law_unit.nd
  refine fn_ty T.F_law_unit sc_law_unit (fun x _ => rfl) fun cdv Ar outer s H E hr => ⟨_, (pss_one (ps_ret (k_tuple (K := K) rfl T.m_tuple (pa_cons (plc [("at", 2)] nd (pi_range1 rfl T.m_range (pa_cons (pv 0) pa_nil)) (fun _ _ _ _ _ => (pgn 2 nd)) (fun _ _ _ _ _ => pts_nil) (fun _ _ _ _ _ => (k_tuple (K := K) rfl T.m_tuple (pa_cons (plc [("k", 1)] nd (pi_range1 rfl T.m_range (pa_cons (pv 0) pa_nil)) (fun _ _ _ _ _ => (pgn 1 nd)) (fun _ _ _ _ _ => pts_nil) (fun _ _ _ _ _ => (bi_int T.m_int (pa_cons (pe_cmpR (k_eq (K := K) rfl hr.units) (pv 1) (pv 2) (nomark _)) pa_nil))) (by kernel_rfl)) pa_nil))) (by kernel_rfl)) pa_nil)))), fun W x hC => ?_⟩
  have hn : x ≤ 1000 := hC
  refine TyS.never (tys_retW (Ty.is (ty_tupG (f := fun i : Nat => intsD ((List.range x).map fun j => if i = j then 1 else 0)) (xs := List.range x) ?_) ?_))
  · refine tyl_map (fun i : Nat => dt K (.int (i : Nat))) (fun i : Nat => dt K (intsD ((List.range x).map fun j => if i = j then 1 else 0))) (tyi_rng (by tm_at "tya") (by omega)) (by rw [List.length_range]; omega) (by decide) fun W' i hi => ?_
    refine Ty.is (ty_tupG (f := fun j : Nat => .int (if i = j then 1 else 0)) (xs := List.range x) ?_) ?_
    · refine tyl_map (fun i : Nat => dt K (.int (i : Nat))) (fun j : Nat => dt K (.int (if i = j then 1 else 0))) (tyi_rng (by tm_at "tya") (by omega)) (by rw [List.length_range]; omega) (by decide) fun W'' j hj => ?_
      refine Ty.is (by tm_at "ty") ?_
      by_cases e : i = j
      · subst e; simp
      · have e' : ¬ ((j : Int) = (i : Int)) := by omega
        simp [e, e']
    · rw [intsD, List.map_map]; rfl
  · rw [tabD, unitI, List.map_map]; rfl
end
section
variable {P : Program} {w : World} {K : PySem.W.Frag} {mg : Str → Option Value} {base : Heap}
/-- what is compared: no deeper than n, nothing too long, no dict -/
def smOk : Nat → PyData → Prop
  | 0, _ => False
  | n + 1, .list ds => ds.length ≤ 1000 ∧ ∀ e ∈ ds, smOk n e
  | n + 1, .tuple ds => ds.length ≤ 1000 ∧ ∀ e ∈ ds, smOk n e
  | _ + 1, .str x => x.length ≤ 1000
  | _ + 1, .dict _ => False
  | _ + 1, _ => True
def sr_law_same (K : PySem.W.Frag) (n : Nat) : Sp := spT (smOk n) (fun d => [dt K d, dt K d]) (fun _ => dt K (.bool true))
def sp_law_same (K : PySem.W.Frag) : Sp := sr_law_same K 8
theorem cutS_one {z : Str} {k c : Nat} (h : z.cps.toList[k]? = some c) : cutS z (some (k : Int)) (some ((k : Int) + 1)) = ⟨#[c]⟩ := by
  have hk : k < z.cps.toList.length := (List.getElem?_eq_some_iff.mp h).1
  have hl : z.cps.toList.length = z.length := rfl
  unfold cutS
  have e1 : HT.sIx z.length 0 (some (k : Int)) = k := by rw [HT.sIx_nat]; omega
  have e2 : HT.sIx z.length z.length (some ((k : Int) + 1)) = k + 1 := by
    have e3 : ((k : Int) + 1) = ((k + 1 : Nat) : Int) := rfl
    rw [e3, HT.sIx_nat]; omega
  rw [e1, e2]
  have e4 : k + 1 - k = 1 := by omega
  rw [e4, List.drop_eq_getElem_cons hk, List.take_succ_cons, List.take_zero]
  have e5 := (List.getElem?_eq_some_iff.mp h).2
  rw [e5]
theorem okr_law_same (T : Tx P K mg) : ∀ n : Nat, FnOk P w K mg base (L2.CX P w) (0 + n) T.a_law_same T.f_law_same ["told", "due"] (sr_law_same K n)
  | 0 => ⟨fun vs H Q E ⟨_, _, _, _, _, _, z, _⟩ => z.elim, fun A outer s H args us vs Q E _ _ _ _ ⟨_, _, _, _, _, _, z, _⟩ => z.elim⟩
  | n + 1 => by
    have G_law_same := okr_law_same T n
    have nd := sc_law_same.nd
    refine fn_ty T.F_law_same sc_law_same (fun x _ => rfl) fun cdv Ar outer s H E hr => ⟨_, (pss_cons (ps_if (PW.pt (pw_or (pt_cmpR op_isN (pv 1) pe_non (nomark _)) (pw_or1 (pt_val (k_isi (K := K) rfl T.m_isinstance (pa_cons (pv 1) (pa_cons (bt_bool T.m_bool) pa_nil))))))) (pss_one (ps_ret (pe_ifExp (pt_cmpR op_isN (pv 1) pe_non (nomark _)) (pe_cmpR op_isN (pv 0) pe_non (nomark _)) (pe_and (k_isi (K := K) rfl T.m_isinstance (pa_cons (pv 0) (pa_cons (bt_bool T.m_bool) pa_nil))) (pe_one (pe_cmpR (k_eq (K := K) rfl hr.units) (pe_cmpR op_isBl (pv 0) pe_bl (nomark _)) (pe_cmpR op_isBl (pv 1) pe_bl (nomark _)) (nomark _))))))) pss_nil)
    (pss_cons (ps_if (pt_val (k_isi (K := K) rfl T.m_isinstance (pa_cons (pv 1) (pa_cons (bt_int T.m_int) pa_nil)))) (pss_one (ps_ret (pe_and (k_isi (K := K) rfl T.m_isinstance (pa_cons (pv 0) (pa_cons (bt_int T.m_int) pa_nil))) (pe_and (pe_not (k_isi (K := K) rfl T.m_isinstance (pa_cons (pv 0) (pa_cons (bt_bool T.m_bool) pa_nil)))) (pe_one (pe_cmpR (k_eq (K := K) rfl hr.units) (pe_op op_sub (bi_int T.m_int (pa_cons (pv 0) pa_nil)) (pv 1)) pe_int (nomark _))))))) pss_nil)
    (pss_cons (ps_if (pt_val (k_isi (K := K) rfl T.m_isinstance (pa_cons (pv 1) (pa_cons (bt_str T.m_str) pa_nil)))) (pss_cons (pset 2 nd (pe_and (k_isi (K := K) rfl T.m_isinstance (pa_cons (pv 0) (pa_cons (bt_str T.m_str) pa_nil))) (pe_one (pe_cmpR (k_eq (K := K) rfl hr.units) (k_len (K := K) rfl T.m_len (pa_cons (pv 0) pa_nil)) (k_len (K := K) rfl T.m_len (pa_cons (pv 1) pa_nil)) (nomark _)))))
    (pss_one (ps_ret (pe_and (pv 2) (pe_one (pe_cmpR (k_eq (K := K) rfl hr.units) (plc [("k", 3)] nd (pi_range1 rfl T.m_range (pa_cons (k_len (K := K) rfl T.m_len (pa_cons (pv 1) pa_nil)) pa_nil)) (fun _ _ _ _ _ => (pgn 3 nd)) (fun _ _ _ _ _ => (pts_one (pt_cmpR (k_ne (K := K) rfl hr.units) (pe_slice (k_sl (K := K) rfl) (pv 0) (po_some (pv 3)) (po_some (pe_op (k_add (K := K) rfl) (pv 3) pe_int))) (pe_ix (k_ix (K := K) rfl) (pv 1) (pv 3) (fun _ _ => rfl)) (nomark _)))) (fun _ _ _ _ _ => (pv 3)) (by kernel_rfl)) (pe_lst pa_nil) (nomark _))))))) pss_nil)
    (pss_cons (ps_if (PW.pt (pw_or (pt_cmpR (k_ne (K := K) rfl hr.units) (k_isi (K := K) rfl T.m_isinstance (pa_cons (pv 0) (pa_cons (bt_list T.m_list) pa_nil))) (k_isi (K := K) rfl T.m_isinstance (pa_cons (pv 1) (pa_cons (bt_list T.m_list) pa_nil))) (nomark _)) (pw_or (pt_not (pt_val (k_isi2 (K := K) rfl T.m_isinstance (pa_cons (pv 0) (pa_cons (pe_tup (pa_cons (bt_list T.m_list) (pa_cons (bt_tuple T.m_tuple) pa_nil))) pa_nil))))) (pw_or1 (pt_cmpR (k_ne (K := K) rfl hr.units) (k_len (K := K) rfl T.m_len (pa_cons (pv 0) pa_nil)) (k_len (K := K) rfl T.m_len (pa_cons (pv 1) pa_nil)) (nomark _)))))) (pss_one (ps_ret pe_bl)) pss_nil)
    (pss_one (ps_ret (pe_cmpR (k_eq (K := K) rfl hr.units) (plc [("k", 3)] nd (pi_range1 rfl T.m_range (pa_cons (k_len (K := K) rfl T.m_len (pa_cons (pv 1) pa_nil)) pa_nil)) (fun _ _ _ _ _ => (pgn 3 nd)) (fun _ _ _ _ _ => (pts_one (pt_not (pt_val (pcall G_law_same hr T.D_law_same (pa_cons (pe_ix (k_ix (K := K) rfl) (pv 0) (pv 3) (fun _ _ => rfl)) (pa_cons (pe_ix (k_ix (K := K) rfl) (pv 1) (pv 3) (fun _ _ => rfl)) pa_nil))))))) (fun _ _ _ _ _ => (pv 3)) (by kernel_rfl)) (pe_lst pa_nil) (nomark _)))))))), fun W x hC => ?_⟩
    cases x with
    | none =>
      refine tys_guard (φ := (· = true)) (tt_orTr (by tm_at "ttis")) (fun _ => tys_retW (ty_if (φ := (· = true)) (by tm_at "ttis") (fun _ => by tm_at "tyis") fun z => Bool.noConfusion z)) (fun z => Bool.noConfusion z)
    | bool b =>
      refine tys_guard (φ := (· = true)) (by tm_at "ttis") (fun _ => tys_retW (ty_if (φ := (· = false)) (by tm_at "ttis") (fun z => Bool.noConfusion z) fun _ => ?_)) (fun z => Bool.noConfusion z)
      refine' Ty.is ?h1 ?h2
      case h1 => tm_at "ty"
      case h2 => cases b <;> rfl
    | int i =>
      refine tys_guard (φ := (· = false)) (by tm_at "ttis") (fun z => Bool.noConfusion z) (fun _ => tys_guard (φ := (· = true)) (by tm_at "ttis") (fun _ => tys_retW ?_) (fun z => Bool.noConfusion z))
      refine' Ty.is ?h1 ?h2
      case h1 => tm_at "ty"
      case h2 => simp [isD, tyD]
    | str z =>
      have hz : z.length ≤ 1000 := hC
      refine tys_guard (φ := (· = false)) (by tm_at "ttis") (fun z => Bool.noConfusion z) (fun _ => tys_guard (φ := (· = false)) (by tm_at "ttis") (fun z => Bool.noConfusion z) (fun _ => tys_guard (φ := (· = true)) (by tm_at "ttis") (fun _ => ?_) (fun z => Bool.noConfusion z)))
      refine tys_seqE (W' := W) (Γ' := [some (dt K (.str z)), some (dt K (.str z)), some (dt K (.bool true)), none]) (tys_set (Ty.is (ty_andV (a := true) (b := true) (by tm_at "tyis") fun _ => Ty.is (ty_op (ty_cb (tya_cons (ty_var rfl) tya_nil) (cbt_lenS (by omega))) (ty_cb (tya_cons (ty_var rfl) tya_nil) (cbt_lenS (by omega))) opt_eqI) (by simp)) rfl)) (tys_retW (Ty.is (ty_andV (a := true) (b := true) (ty_var rfl) fun _ => ty_op (ty_lstG (f := fun k : Nat => .int (k : Nat)) (xs := (List.range z.length).filter fun _ => false) ?_ |>.is ?_) (ty_lstD (ds := []) tya_nil (by decide)) opt_eqL0) rfl))
      · refine tyl_filter (fun k : Nat => dt K (.int (k : Nat))) (fun k : Nat => dt K (.int (k : Nat))) (fun _ => false) (tyi_rng (n := z.length) (tya_cons (ty_cb (tya_cons (ty_var rfl) tya_nil) (cbt_lenS (by omega))) tya_nil) (by omega)) (by rw [List.length_range]; omega) (by decide) fun W' k hk => ⟨?_, fun z => Bool.noConfusion z⟩
        have hk' : k < z.cps.toList.length := List.mem_range.mp hk
        have hc := List.getElem?_eq_getElem hk'
        exact Tt.is (tt_test (ty_op (ty_slS (by omega) (ty_var rfl) (tyo_some (ty_var rfl)) (tyo_some (ty_op (ty_var rfl) ty_int opt_add))) (ty_op (ty_var rfl) (ty_var rfl) (opt_ixS (by omega) (atI_nat hc))) opt_neS)) (by rw [cutS_one hc]; simp)
      · simp
    | list ds =>
      obtain ⟨h1, h2⟩ : ds.length ≤ 1000 ∧ ∀ e ∈ ds, smOk n e := hC
      refine tys_guard (φ := (· = false)) (by tm_at "ttis") (fun z => Bool.noConfusion z) (fun _ => tys_guard (φ := (· = false)) (by tm_at "ttis") (fun z => Bool.noConfusion z) (fun _ => tys_guard (φ := (· = false)) (by tm_at "ttis") (fun z => Bool.noConfusion z) fun _ => tys_guard (φ := (· = false)) ?_ (fun z => Bool.noConfusion z) fun _ => TyS.never (tys_retW (ty_op (ty_lstG (f := fun k : Nat => .int (k : Nat)) (xs := (List.range ds.length).filter fun _ => false) ?_ |>.is ?_) (ty_lstD (ds := []) tya_nil (by decide)) opt_eqL0))))
      · refine' Tt.is ?h1 ?h2
        case h1 => tm_at "tt"
        case h2 => simp [isD, tyD]
      · refine tyl_filter (fun k : Nat => dt K (.int (k : Nat))) (fun k : Nat => dt K (.int (k : Nat))) (fun _ => false) (tyi_rng (n := ds.length) (tya_cons (ty_cb (tya_cons (ty_var rfl) tya_nil) cbt_lenL) tya_nil) (by omega)) (by rw [List.length_range]; omega) (by decide) fun W' k hk => ⟨?_, fun z => Bool.noConfusion z⟩
        have hk' : k < ds.length := List.mem_range.mp hk
        have e := List.getElem?_eq_getElem hk'
        exact Tt.is (tt_notB (tt_B (ty_call (ds[k]) (h2 _ (List.getElem_mem hk')) (tya_cons (ty_op (ty_var rfl) (ty_var rfl) (opt_ixL (atI_nat e))) (tya_cons (ty_op (ty_var rfl) (ty_var rfl) (opt_ixL (atI_nat e))) tya_nil))))) rfl
      · simp
    | tuple ds =>
      obtain ⟨h1, h2⟩ : ds.length ≤ 1000 ∧ ∀ e ∈ ds, smOk n e := hC
      refine tys_guard (φ := (· = false)) (by tm_at "ttis") (fun z => Bool.noConfusion z) (fun _ => tys_guard (φ := (· = false)) (by tm_at "ttis") (fun z => Bool.noConfusion z) (fun _ => tys_guard (φ := (· = false)) (by tm_at "ttis") (fun z => Bool.noConfusion z) fun _ => tys_guard (φ := (· = false)) ?_ (fun z => Bool.noConfusion z) fun _ => TyS.never (tys_retW (ty_op (ty_lstG (f := fun k : Nat => .int (k : Nat)) (xs := (List.range ds.length).filter fun _ => false) ?_ |>.is ?_) (ty_lstD (ds := []) tya_nil (by decide)) opt_eqL0))))
      · refine' Tt.is ?h1 ?h2
        case h1 => tm_at "tt"
        case h2 => simp [isD, tyD]
      · refine tyl_filter (fun k : Nat => dt K (.int (k : Nat))) (fun k : Nat => dt K (.int (k : Nat))) (fun _ => false) (tyi_rng (n := ds.length) (tya_cons (ty_cb (tya_cons (ty_var rfl) tya_nil) cbt_lenT) tya_nil) (by omega)) (by rw [List.length_range]; omega) (by decide) fun W' k hk => ⟨?_, fun z => Bool.noConfusion z⟩
        have hk' : k < ds.length := List.mem_range.mp hk
        have e := List.getElem?_eq_getElem hk'
        exact Tt.is (tt_notB (tt_B (ty_call (ds[k]) (h2 _ (List.getElem_mem hk')) (tya_cons (ty_op (ty_var rfl) (ty_var rfl) (opt_ixT (atI_nat e))) (tya_cons (ty_op (ty_var rfl) (ty_var rfl) (opt_ixT (atI_nat e))) tya_nil))))) rfl
      · simp
    | dict kvs => exact (show False from hC).elim
theorem ok_law_same (T : Tx P K mg) : FnOk P w K mg base (L2.CX P w) 8 T.a_law_same T.f_law_same ["told", "due"] (sp_law_same K) := okr_law_same T 8
end
section
variable {P : Program} {w : World} {K : PySem.W.Frag} {mg : Str → Option Value} {base : Heap}
/-- as smOk; a dict of one text and an int may be -/
def stOk : Nat → PyData → Prop
  | 0, _ => False
  | n + 1, .list ds => ds.length ≤ 1000 ∧ ∀ e ∈ ds, stOk n e
  | n + 1, .tuple ds => ds.length ≤ 1000 ∧ ∀ e ∈ ds, stOk n e
  | _ + 1, .str x => x.length ≤ 1000
  | n + 1, .dict kvs => 0 < n ∧ ∃ (x : Str) (i : Int), kvs = [(.str x, .int i)]
  | _ + 1, _ => True
def sr_law_still (K : PySem.W.Frag) (n : Nat) : Sp := spT (stOk n) (fun d => [dt K d, dt K d]) (fun _ => dt K (.bool true))
def sp_law_still (K : PySem.W.Frag) : Sp := sr_law_still K 4
theorem RpK1 {M : Addr → Prop} {K : PySem.W.Frag} {H : Hp} {kvs : List (Key × V)} {l : List (PyData × PyData)} {x : Str} {i : Int} (h : RpK M K H kvs l) (e : l = [(.str x, .int i)]) : kvs = [(.inr x, .int i)] := by
  cases h with
  | nil => cases e
  | @cons k v vs d ds h r =>
    injection e with e1 e2
    subst e2
    cases r
    injection e1 with e3 e4
    subst e4
    cases h
    cases k with
    | inl z => cases e3
    | inr z => cases e3; rfl
/-- a walk over the keys of a dict of one entry, where the test is false -/
theorem ty_keys1 {W : Wd} {Γ : Gam} {K : PySem.W.Frag} {x : Str} {i : Int} {n : Nat} (hn : 0 < n) (hΓ : Γ = [some (dt K (.dict [(.str x, .int i)])), some (dt K (.dict [(.str x, .int i)])), none, none]) : Ty W Γ (tLockE (tLc (iKeys (tVar 1)) (gName 2) (tOr (tB (tDNotIn (tVar 2) (tVar 0))) (tNot (tB (tCall (sr_law_still K n) [] E0 (tCons (tDGet (tVar 0) (tVar 2)) (tCons (tDGet (tVar 1) (tVar 2)) tNil)))))) (tVar 2) [2])) (dt K (.list [])) := fun σ H c g Q q => by
  subst hΓ
  match σ, g with
  | [some u, some v, s2, s3], g =>
    obtain ⟨g1, g2, _⟩ := g
    cases g1 with
    | @dic d0 kvs0 _ e0 r0 =>
    cases g2 with
    | @dic d kvs _ e1 r1 =>
    obtain rfl := RpK1 r0 rfl
    obtain rfl := RpK1 r1 rfl
    refine ⟨d, .dK [(.inr x, .int i)], e1, trivial, fun od => ⟨.ref d, rfl, d, od, rfl, .inl ⟨[(.inr x, .int i)], upd_same, fun D hD => ?_⟩⟩⟩
    have hd1 : upd H d (.frz od (.dK [(.inr x, .int i)])) d = some (.frz od (.dK [(.inr x, .int i)])) := upd_same
    have nD : d ≠ D := ne_of_none hd1 hD
    have HD : H D = none := by rw [upd_ne (Ne.symm nD)] at hD; exact hD
    have fz : ∀ {H2 : Hp}, Ex (fun _ => False) (upd (upd H d (.frz od (.dK [(.inr x, .int i)]))) D (.lst [])) H2 → H2 d = some (.frz od (.dK [(.inr x, .int i)])) := fun {H2} h => h.keep (by rw [upd_ne nD]; exact hd1) id
    have rd : ∀ {H2 : Hp} {b : Addr}, H b = some (.dK [(.inr x, .int i)]) → Ex (fun _ => False) (upd (upd H d (.frz od (.dK [(.inr x, .int i)]))) D (.lst [])) H2 → DGet H2 b (.str x) (some (.int i)) := fun {H2 b} hb h => by
      refine .inl ⟨[(.inr x, .int i)], .inr x, ?_, rfl, (valV_pos (p := ((Sum.inr x : Key), V.int i)) (r := []) (k := Sum.inr x) rfl).symm⟩
      by_cases eb : b = d
      · subst eb
        exact .inr ⟨od, fz h⟩
      · exact .inl (h.keep (by rw [upd_ne (ne_of_none hb HD), upd_ne eb]; exact hb) id)
    refine lc_it walk_keys (fun _ H2 => Ex (fun _ => False) (upd (upd H d (.frz od (.dK [(.inr x, .int i)]))) D (.lst [])) H2) (Ex.refl _ _) (fun _ H2 _ h => fz h) ?_ ?_
    · rintro j xv H2 H3 hj h2 ⟨rfl, k, v', hk, rfl⟩
      obtain rfl : j = 0 := by simpa using hj
      obtain ⟨rfl, rfl⟩ : Sum.inr x = k ∧ V.int i = v' := by simpa using hk
      refine ⟨rfl, ?_⟩
      refine ⟨.str x, rfl, .ref d0, rfl, d0, some (.int i), rfl, rd e0 h2, false, rfl, ?_⟩
      dsimp only
      rw [if_neg Bool.false_ne_true]
      refine ⟨.ref d0, rfl, .str x, rfl, d0, .int i, rfl, rd e0 h2, .ref d, rfl, .str x, rfl, d, .int i, rfl, rd e1 h2, ?_⟩
      refine ⟨fun _ => False, fun _ => False, .int i, fun _ z => z, fun _ z => z.elim, fun _ z => z.elim, ?_, ⟨.int i, .int i, True.intro⟩, fun v H' e hv => ?_⟩
      · cases n with
        | zero => exact absurd hn (Nat.lt_irrefl _)
        | succ m => exact True.intro
      · cases hv
        exact ⟨true, rfl, by dsimp only; rw [if_neg (by decide)]; exact h2.trans e⟩
    · intro H2 h
      refine ⟨fz h, q _ _ (fun a o ha => .inl ?_) (.lst (xs := []) ?_ (c.nm HD) .nil)⟩
      · by_cases ea : a = d
        · subst ea
          rw [e1] at ha
          cases ha
          exact upd_same
        · rw [upd_ne ea]
          exact h.keep (by rw [upd_ne (ne_of_none ha HD), upd_ne ea]; exact ha) id
      · rw [upd_ne (Ne.symm nD)]
        exact h.keep upd_same id
theorem okr_law_still (T : Tx P K mg) : ∀ n : Nat, FnOk P w K mg base (L2.CX P w) (8 + n) T.a_law_still T.f_law_still ["told", "due"] (sr_law_still K n)
  | 0 => ⟨fun vs H Q E ⟨_, _, _, _, _, _, z, _⟩ => z.elim, fun A outer s H args us vs Q E _ _ _ _ ⟨_, _, _, _, _, _, z, _⟩ => z.elim⟩
  | n + 1 => by
    have G_law_still := okr_law_still T n
    have G_law_same := ok_law_same (w := w) (base := base) T
    have nd := sc_law_still.nd
    refine fn_ty T.F_law_still sc_law_still (fun x _ => rfl) fun cdv Ar outer s H E hr => ⟨_, (pss_cons (ps_if (pt_val (k_isi (K := K) rfl T.m_isinstance (pa_cons (pv 1) (pa_cons (bt_dict T.m_dict) pa_nil)))) (pss_cons (ps_if (PW.pt (pw_or (pt_not (pt_val (k_isi (K := K) rfl T.m_isinstance (pa_cons (pv 0) (pa_cons (bt_dict T.m_dict) pa_nil))))) (pw_or1 (pt_cmpR (k_ne (K := K) rfl hr.units) (k_lenA (K := K) rfl T.m_len (pa_cons (pv 0) pa_nil)) (k_lenA (K := K) rfl T.m_len (pa_cons (pv 1) pa_nil)) (nomark _))))) (pss_one (ps_ret pe_bl)) pss_nil)
    (pss_one (ps_ret (pe_cmpR (k_eq (K := K) rfl hr.units) (pe_lock (plc [("key", 2)] nd (pi_keys (pv 1)) (fun _ _ _ _ _ => (pgn 2 nd)) (fun _ _ _ _ _ => (pts_one (PW.pt (pw_or (pt_cmp (pc_dnotin (hu1 hr.units) (pv 2) (pv 0)) rfl) (pw_or1 (pt_not (pt_val (pcall G_law_still hr T.D_law_still (pa_cons (pe_dget (hu1 hr.units) (pv 0) (pv 2) (fun _ _ => rfl)) (pa_cons (pe_dget (hu1 hr.units) (pv 1) (pv 2) (fun _ _ => rfl)) pa_nil)))))))))) (fun _ _ _ _ _ => (pv 2)) (by kernel_rfl))) (pe_lst pa_nil) (nomark _))))) pss_nil)
    (pss_cons (ps_if (pt_val (k_isi2 (K := K) rfl T.m_isinstance (pa_cons (pv 1) (pa_cons (pe_tup (pa_cons (bt_list T.m_list) (pa_cons (bt_tuple T.m_tuple) pa_nil))) pa_nil)))) (pss_cons (ps_if (PW.pt (pw_or (pt_cmpR (k_ne (K := K) rfl hr.units) (k_isi (K := K) rfl T.m_isinstance (pa_cons (pv 0) (pa_cons (bt_list T.m_list) pa_nil))) (k_isi (K := K) rfl T.m_isinstance (pa_cons (pv 1) (pa_cons (bt_list T.m_list) pa_nil))) (nomark _)) (pw_or (pt_cmpR (k_ne (K := K) rfl hr.units) (k_isi (K := K) rfl T.m_isinstance (pa_cons (pv 0) (pa_cons (bt_tuple T.m_tuple) pa_nil))) (k_isi (K := K) rfl T.m_isinstance (pa_cons (pv 1) (pa_cons (bt_tuple T.m_tuple) pa_nil))) (nomark _)) (pw_or1 (pt_cmpR (k_ne (K := K) rfl hr.units) (k_lenA (K := K) rfl T.m_len (pa_cons (pv 0) pa_nil)) (k_lenA (K := K) rfl T.m_len (pa_cons (pv 1) pa_nil)) (nomark _)))))) (pss_one (ps_ret pe_bl)) pss_nil)
    (pss_one (ps_ret (pe_cmpR (k_eq (K := K) rfl hr.units) (plc [("k", 3)] nd (pi_range1 rfl T.m_range (pa_cons (k_lenA (K := K) rfl T.m_len (pa_cons (pv 1) pa_nil)) pa_nil)) (fun _ _ _ _ _ => (pgn 3 nd)) (fun _ _ _ _ _ => (pts_one (pt_not (pt_val (pcall G_law_still hr T.D_law_still (pa_cons (pe_ix (k_ix (K := K) rfl) (pv 0) (pv 3) (fun _ _ => rfl)) (pa_cons (pe_ix (k_ix (K := K) rfl) (pv 1) (pv 3) (fun _ _ => rfl)) pa_nil))))))) (fun _ _ _ _ _ => (pv 3)) (by kernel_rfl)) (pe_lst pa_nil) (nomark _))))) pss_nil)
    (pss_one (ps_ret (pcall G_law_same (hr.mono (Nat.le_add_right _ _)) T.D_law_same (pa_cons (pv 0) (pa_cons (pv 1) pa_nil))))))), fun W x hC => ?_⟩
    cases x with
    | dict kvs =>
      obtain ⟨hn, x, i, rfl⟩ : 0 < n ∧ ∃ (x : Str) (i : Int), kvs = [(.str x, .int i)] := hC
      refine tys_guard (φ := (· = true)) (by tm_at "ttis") (fun _ => ?_) fun z => Bool.noConfusion z
      refine tys_guard (φ := (· = false)) (Tt.is (tt_orB (a := false) (by tm_at "ttis") fun _ => tt_test (ty_op (ty_cb (tya_cons (ty_var rfl) tya_nil) cbt_lenDict) (ty_cb (tya_cons (ty_var rfl) tya_nil) cbt_lenDict) opt_neI)) (by simp)) (fun z => Bool.noConfusion z) fun _ => TyS.never (tys_retW (ty_op (ty_keys1 hn rfl) (ty_lstD (ds := []) tya_nil (by decide)) opt_eqL0))
    | list ds =>
      obtain ⟨h1, h2⟩ : ds.length ≤ 1000 ∧ ∀ e ∈ ds, stOk n e := hC
      refine tys_guard (φ := (· = false)) (by tm_at "ttis") (fun z => Bool.noConfusion z) fun _ => tys_guard (φ := (· = true)) (by tm_at "ttis") (fun _ => ?_) fun z => Bool.noConfusion z
      refine tys_guard (φ := (· = false)) ?_ (fun z => Bool.noConfusion z) fun _ => TyS.never (tys_retW (ty_op (ty_lstG (f := fun k : Nat => .int (k : Nat)) (xs := (List.range ds.length).filter fun _ => false) ?_ |>.is ?_) (ty_lstD (ds := []) tya_nil (by decide)) opt_eqL0))
      · exact Tt.is (tt_orB (a := false) (by tm_at "ttis") fun _ => tt_orB (a := false) (by tm_at "ttis") fun _ => tt_test (ty_op (ty_cb (tya_cons (ty_var rfl) tya_nil) (cbt_lenA cbt_lenL)) (ty_cb (tya_cons (ty_var rfl) tya_nil) (cbt_lenA cbt_lenL)) opt_neI)) (by simp)
      · refine tyl_filter (fun k : Nat => dt K (.int (k : Nat))) (fun k : Nat => dt K (.int (k : Nat))) (fun _ => false) (tyi_rng (n := ds.length) (tya_cons (ty_cb (tya_cons (ty_var rfl) tya_nil) (cbt_lenA cbt_lenL)) tya_nil) (by omega)) (by rw [List.length_range]; omega) (by decide) fun W' k hk => ⟨?_, fun z => Bool.noConfusion z⟩
        have hk' : k < ds.length := List.mem_range.mp hk
        have e := List.getElem?_eq_getElem hk'
        exact Tt.is (tt_notB (tt_B (ty_call (ds[k]) (h2 _ (List.getElem_mem hk')) (tya_cons (ty_op (ty_var rfl) (ty_var rfl) (opt_ixL (atI_nat e))) (tya_cons (ty_op (ty_var rfl) (ty_var rfl) (opt_ixL (atI_nat e))) tya_nil))))) rfl
      · simp
    | tuple ds =>
      obtain ⟨h1, h2⟩ : ds.length ≤ 1000 ∧ ∀ e ∈ ds, stOk n e := hC
      refine tys_guard (φ := (· = false)) (by tm_at "ttis") (fun z => Bool.noConfusion z) fun _ => tys_guard (φ := (· = true)) (by tm_at "ttis") (fun _ => ?_) fun z => Bool.noConfusion z
      refine tys_guard (φ := (· = false)) ?_ (fun z => Bool.noConfusion z) fun _ => TyS.never (tys_retW (ty_op (ty_lstG (f := fun k : Nat => .int (k : Nat)) (xs := (List.range ds.length).filter fun _ => false) ?_ |>.is ?_) (ty_lstD (ds := []) tya_nil (by decide)) opt_eqL0))
      · exact Tt.is (tt_orB (a := false) (by tm_at "ttis") fun _ => tt_orB (a := false) (by tm_at "ttis") fun _ => tt_test (ty_op (ty_cb (tya_cons (ty_var rfl) tya_nil) (cbt_lenA cbt_lenT)) (ty_cb (tya_cons (ty_var rfl) tya_nil) (cbt_lenA cbt_lenT)) opt_neI)) (by simp)
      · refine tyl_filter (fun k : Nat => dt K (.int (k : Nat))) (fun k : Nat => dt K (.int (k : Nat))) (fun _ => false) (tyi_rng (n := ds.length) (tya_cons (ty_cb (tya_cons (ty_var rfl) tya_nil) (cbt_lenA cbt_lenT)) tya_nil) (by omega)) (by rw [List.length_range]; omega) (by decide) fun W' k hk => ⟨?_, fun z => Bool.noConfusion z⟩
        have hk' : k < ds.length := List.mem_range.mp hk
        have e := List.getElem?_eq_getElem hk'
        exact Tt.is (tt_notB (tt_B (ty_call (ds[k]) (h2 _ (List.getElem_mem hk')) (tya_cons (ty_op (ty_var rfl) (ty_var rfl) (opt_ixT (atI_nat e))) (tya_cons (ty_op (ty_var rfl) (ty_var rfl) (opt_ixT (atI_nat e))) tya_nil))))) rfl
      · simp
    | _ => exact tys_guard (φ := (· = false)) (by tm_at "ttis") (fun z => Bool.noConfusion z) fun _ => tys_guard (φ := (· = false)) (by tm_at "ttis") (fun z => Bool.noConfusion z) fun _ => TyS.never (tys_retW (ty_call _ (by first | exact trivial | exact (show smOk 8 (.str _) from hC)) (tya_cons (ty_var rfl) (tya_cons (ty_var rfl) tya_nil))))
theorem ok_law_still (T : Tx P K mg) : FnOk P w K mg base (L2.CX P w) 12 T.a_law_still T.f_law_still ["told", "due"] (sp_law_still K) := okr_law_still T 4
end
section
variable {P : Program} {w : World} {K : PySem.W.Frag} {mg : Str → Option Value} {base : Heap}
def dotC (x : PyData × PyData × Int) : Prop := sizeD x.1 ≤ 1000 ∧ sizeD x.2.1 ≤ 1000 ∧ (isLineD x.1 = true → isLineOfD x.2.1 (sizeD x.1 : Nat) = true → ∃ a b, x.1 = intsD a ∧ x.2.1 = intsD b ∧ sml a ∧ sml b ∧ x.2.2 = dotI a b)
def appC (x : PyData × PyData × List Int) : Prop := okT x.1 ∧ sizeD x.2.1 ≤ 1000 ∧ (isTableD x.1 = true → isLineOfD x.2.1 (widD x.1 : Nat) = true → ∃ a b, x.1 = tabD a ∧ x.2.1 = intsD b ∧ smt a ∧ sml b ∧ x.2.2 = applyI a b)
def timC (x : PyData × PyData × List (List Int)) : Prop := okT x.1 ∧ okT x.2.1 ∧ (isTableD x.1 = true → isTableD x.2.1 = true → sizeD x.2.1 = widD x.1 → ∃ a b n, x.1 = tabD a ∧ x.2.1 = tabD b ∧ widD x.2.1 = n ∧ smt a ∧ mixOk b n ∧ (∀ r ∈ a, mixB r b n) ∧ x.2.2 = timesI a b n)
def turC (x : PyData × List (List Int)) : Prop := okT x.1 ∧ (isTableD x.1 = true → ∃ a, x.1 = tabD a ∧ a.length ≤ 1000 ∧ widD x.1 ≤ 1000 ∧ (∀ r ∈ a, r.length = widD x.1) ∧ x.2 = turnI a (widD x.1))
/-- what a call tells -/
inductive CallOk : Str → List PyData → Str → PyData → Prop
  | dot (d e : PyData) (r : Int) (h : dotC (d, e, r)) (h1 : isLineD d = true) (h2 : isLineOfD e (sizeD d : Nat) = true) : CallOk "dot" [d, e] "told" (.int r)
  | dot1 (d e : PyData) (r : Int) (h : dotC (d, e, r)) (h1 : isLineD d = false) : CallOk "dot" [d, e] "line" d
  | dot2 (d e : PyData) (r : Int) (h : dotC (d, e, r)) (h1 : isLineD d = true) (h2 : isLineOfD e (sizeD d : Nat) = false) : CallOk "dot" [d, e] "line" e
  | app (d e : PyData) (r : List Int) (h : appC (d, e, r)) (h1 : isTableD d = true) (h2 : isLineOfD e (widD d : Nat) = true) : CallOk "applied" [d, e] "told" (intsD r)
  | app1 (d e : PyData) (r : List Int) (h : appC (d, e, r)) (h1 : isTableD d = false) : CallOk "applied" [d, e] "table" d
  | app2 (d e : PyData) (r : List Int) (h : appC (d, e, r)) (h1 : isTableD d = true) (h2 : isLineOfD e (widD d : Nat) = false) : CallOk "applied" [d, e] "line" e
  | tim (d e : PyData) (r : List (List Int)) (h : timC (d, e, r)) (h1 : isTableD d = true) (h2 : isTableD e = true ∧ sizeD e = widD d) : CallOk "times" [d, e] "told" (tabD r)
  | tim1 (d e : PyData) (r : List (List Int)) (h : timC (d, e, r)) (h1 : isTableD d = false) : CallOk "times" [d, e] "table" d
  | tim2 (d e : PyData) (r : List (List Int)) (h : timC (d, e, r)) (h1 : isTableD d = true) (h2 : ¬ (isTableD e = true ∧ sizeD e = widD d)) : CallOk "times" [d, e] "table" e
  | tur (d : PyData) (r : List (List Int)) (h : turC (d, r)) (h1 : isTableD d = true) : CallOk "turned" [d] "told" (tabD r)
  | tur1 (d : PyData) (r : List (List Int)) (h : turC (d, r)) (h1 : isTableD d = false) : CallOk "turned" [d] "table" d
def sp_law_call (K : PySem.W.Frag) : Sp := spT (fun x : Str × List PyData × Bool × Str × PyData => CallOk x.1 x.2.1 x.2.2.2.1 x.2.2.2.2) (fun x => [dt K (.str x.1), dt K (.list x.2.1), dt K (.bool x.2.2.1)]) (fun x => dt K (.list [.str x.2.2.2.1, x.2.2.2.2]))
theorem told_list {W : Wd} {Γ : Gam} {K : PySem.W.Frag} {te : TE} {tag : Str} {val : PyData} (h : Ty W Γ te (gd (tag = "told") (dt K val))) : Ty W Γ (tLst (tCons (tC (.str "told")) (tCons te tNil))) (dt K (.list [.str tag, val])) := (tyl_lst (tya_cons (ty_str (K := K)) (tya_cons h tya_nil)) (by show 2 ≤ 1000000; decide)).ty.sub fun v H _ z => by
  obtain ⟨p, xs, rfl, h0, h1, h2⟩ := z
  match xs, h2 with
  | [a, b], ⟨h3, h4, _⟩ =>
    obtain ⟨rfl, h5⟩ := h4
    exact .lst h1 h0 (.cons h3 (.cons h5 .nil))
theorem ok_law_call (T : Tx P K mg) : FnOk P w K mg base (L2.CX P w) 7 T.a_law_call T.f_law_call ["which", "a", "named"] (sp_law_call K) := by
  have G_turned := ok_turned (w := w) (base := base) T
  have G_dot := ok_dot (w := w) (base := base) T
  have G_applied := ok_applied (w := w) (base := base) T
  have G_times := ok_times (w := w) (base := base) T
  have nd := sc_law_call.nd
  refine fn_ty T.F_law_call sc_law_call (fun x _ => rfl) fun cdv Ar outer s H E hr => ⟨_, (pss_one (k_try (K := K) rfl rfl rfl nd takes0 (fun _ pn xe tk _ => (pss_cons (ps_if (pt_cmpR (k_eq (K := K) rfl hr.units) (pv 0) pe_str (nomark _)) (pss_one (ps_ret (pe_lst (pa_cons pe_str (pa_cons (pe_ifExp (pt_val (pv 2)) (pe_callS G_dot (hr.mono (by decide)) rfl T.D_dot.g T.D_dot.k T.D_dot.b (fun σ => passAt tk σ) (pa_cons (pe_ix (k_ix (K := K) rfl) (pv 1) pe_int (fun _ _ => rfl)) (pa_cons (pe_ix (k_ix (K := K) rfl) (pv 1) pe_int (fun _ _ => rfl)) pa_nil))) (pe_callKS G_dot (hr.mono (by decide)) rfl T.D_dot.g T.D_dot.k T.B_dot (fun σ => passAt tk σ) (pk_cons (pe_ix (k_ix (K := K) rfl) (pv 1) pe_int (fun _ _ => rfl)) (pk_cons (pe_ix (k_ix (K := K) rfl) (pv 1) pe_int (fun _ _ => rfl)) pk_nil)))) pa_nil))))) pss_nil)
    (pss_cons (ps_if (pt_cmpR (k_eq (K := K) rfl hr.units) (pv 0) pe_str (nomark _)) (pss_one (ps_ret (pe_lst (pa_cons pe_str (pa_cons (pe_ifExp (pt_val (pv 2)) (pe_callS G_applied (hr.mono (by decide)) rfl T.D_applied.g T.D_applied.k T.D_applied.b (fun σ => passAt tk σ) (pa_cons (pe_ix (k_ix (K := K) rfl) (pv 1) pe_int (fun _ _ => rfl)) (pa_cons (pe_ix (k_ix (K := K) rfl) (pv 1) pe_int (fun _ _ => rfl)) pa_nil))) (pe_callKS G_applied (hr.mono (by decide)) rfl T.D_applied.g T.D_applied.k T.B_applied (fun σ => passAt tk σ) (pk_cons (pe_ix (k_ix (K := K) rfl) (pv 1) pe_int (fun _ _ => rfl)) (pk_cons (pe_ix (k_ix (K := K) rfl) (pv 1) pe_int (fun _ _ => rfl)) pk_nil)))) pa_nil))))) pss_nil)
    (pss_cons (ps_if (pt_cmpR (k_eq (K := K) rfl hr.units) (pv 0) pe_str (nomark _)) (pss_one (ps_ret (pe_lst (pa_cons pe_str (pa_cons (pe_ifExp (pt_val (pv 2)) (pe_callS G_times (hr.mono (by decide)) rfl T.D_times.g T.D_times.k T.D_times.b (fun σ => passAt tk σ) (pa_cons (pe_ix (k_ix (K := K) rfl) (pv 1) pe_int (fun _ _ => rfl)) (pa_cons (pe_ix (k_ix (K := K) rfl) (pv 1) pe_int (fun _ _ => rfl)) pa_nil))) (pe_callKS G_times (hr.mono (by decide)) rfl T.D_times.g T.D_times.k T.B_times (fun σ => passAt tk σ) (pk_cons (pe_ix (k_ix (K := K) rfl) (pv 1) pe_int (fun _ _ => rfl)) (pk_cons (pe_ix (k_ix (K := K) rfl) (pv 1) pe_int (fun _ _ => rfl)) pk_nil)))) pa_nil))))) pss_nil)
    (pss_one (ps_ret (pe_lst (pa_cons pe_str (pa_cons (pe_ifExp (pt_val (pv 2)) (pe_callS G_turned (hr.mono (by decide)) rfl T.D_turned.g T.D_turned.k T.D_turned.b (fun σ => passAt tk σ) (pa_cons (pe_ix (k_ix (K := K) rfl) (pv 1) pe_int (fun _ _ => rfl)) pa_nil)) (pe_callKS G_turned (hr.mono (by decide)) rfl T.D_turned.g T.D_turned.k T.B_turned (fun σ => passAt tk σ) (pk_cons (pe_ix (k_ix (K := K) rfl) (pv 1) pe_int (fun _ _ => rfl)) pk_nil))) pa_nil))))))))) (HdsA.cons (i := 3) rfl rfl ⟨rfl, by decide, .inl T.c_InvalidLine.gC⟩ (fun a oe cls d pn hz hf => (pss_one (ps_ret (pe_lst (pa_cons pe_str (pa_cons (pe_xf T.x_InvalidLine T.c_InvalidLine.noN hz hf (pv 3)) pa_nil)))))) (HdsA.cons (i := 3) rfl rfl ⟨rfl, by decide, .inl T.c_InvalidTable.gC⟩ (fun a oe cls d pn hz hf => (pss_one (ps_ret (pe_lst (pa_cons pe_str (pa_cons (pe_xf T.x_InvalidTable T.c_InvalidTable.noN hz hf (pv 3)) pa_nil)))))) HdsA.nil)))), fun W x hC => ?_⟩
  obtain ⟨which, a, nm, tag, val⟩ := x
  dsimp only at hC ⊢
  refine TyS.never (tys_try (Er := fun c d σ H => nE W [some (dt K (.str which)), some (dt K (.list a)), some (dt K (.bool nm)), none] σ H ∧ ∃ dd, d = some dd ∧ ((c = .ref T.a_InvalidLine ∧ tag = "line" ∧ Held W (dt K val) dd H) ∨ (c = .ref T.a_InvalidTable ∧ tag = "table" ∧ Held W (dt K val) dd H))) (fun Wx hW => ?_) fun D dr c d σ H e => ?_)
  · have erL : tag = "line" → ErK W [some (dt K (.str which)), some (dt K (.list a)), some (dt K (.bool nm)), none] Wx T.a_InvalidLine (dt K val) := fun q dd σ H n hl => hW _ _ _ _ ⟨n, dd, rfl, .inl ⟨rfl, q, hl⟩⟩
    have erT : tag = "table" → ErK W [some (dt K (.str which)), some (dt K (.list a)), some (dt K (.bool nm)), none] Wx T.a_InvalidTable (dt K val) := fun q dd σ H n hl => hW _ _ _ _ ⟨n, dd, rfl, .inr ⟨rfl, q, hl⟩⟩
    have pick : ∀ {t1 t2 : TE}, Ty W [some (dt K (.str which)), some (dt K (.list a)), some (dt K (.bool nm)), none] t1 (gd (tag = "told") (dt K val)) → Ty W [some (dt K (.str which)), some (dt K (.list a)), some (dt K (.bool nm)), none] t2 (gd (tag = "told") (dt K val)) → TyS W [some (dt K (.str which)), some (dt K (.list a)), some (dt K (.bool nm)), none] (tRet (tLst (tCons (tC (.str "told")) (tCons (tIf (tB (tVar 2)) t1 t2) tNil)))) noN (rW W (dt K (.list [.str tag, val]))) noN noN := fun h1 h2 =>
      tys_retW (told_list (ty_if (φ := (· = nm)) (tt_B (ty_var rfl)) (fun _ => h1) fun _ => h2))
    have no : ∀ {x : Str}, which ≠ x → Tt W [some (dt K (.str which)), some (dt K (.list a)), some (dt K (.bool nm)), none] (tTest (tOp (rEqA K) (tVar 0) (tC (.str x)))) (· = false) := fun {x} h => Tt.is (tt_test (ty_op (ty_var rfl) ty_str opt_eqS)) (decide_eq_false h)
    have yes : ∀ {x : Str}, which = x → Tt W [some (dt K (.str which)), some (dt K (.list a)), some (dt K (.bool nm)), none] (tTest (tOp (rEqA K) (tVar 0) (tC (.str x)))) (· = true) := fun {x} h => Tt.is (tt_test (ty_op (ty_var rfl) ty_str opt_eqS)) (decide_eq_true h)
    have ix2 : ∀ d e, a = [d, e] → TyA W [some (dt K (.str which)), some (dt K (.list a)), some (dt K (.bool nm)), none] (tCons (tOp (rIx K) (tVar 1) (tC (.int 0))) (tCons (tOp (rIx K) (tVar 1) (tC (.int 1))) tNil)) [dt K d, dt K e] ∧
        TyA W [some (dt K (.str which)), some (dt K (.list a)), some (dt K (.bool nm)), none] (tCons (tOp (rIx K) (tVar 1) (tC (.int 1))) (tCons (tOp (rIx K) (tVar 1) (tC (.int 0))) tNil)) [dt K e, dt K d] := fun d e q => by
      subst q
      have z0 : Ty W [some (dt K (.str which)), some (dt K (.list [d, e])), some (dt K (.bool nm)), none] (tOp (rIx K) (tVar 1) (tC (.int 0))) (dt K d) := ty_op (ty_var rfl) ty_int (opt_ixL (i := 0) (atI_nat (j := 0) rfl))
      have z1 : Ty W [some (dt K (.str which)), some (dt K (.list [d, e])), some (dt K (.bool nm)), none] (tOp (rIx K) (tVar 1) (tC (.int 1))) (dt K e) := ty_op (ty_var rfl) ty_int (opt_ixL (i := 1) (atI_nat (j := 1) rfl))
      exact ⟨tya_cons z0 (tya_cons z1 tya_nil), tya_cons z1 (tya_cons z0 tya_nil)⟩
    have ix1 : ∀ d, a = [d] → TyA W [some (dt K (.str which)), some (dt K (.list a)), some (dt K (.bool nm)), none] (tCons (tOp (rIx K) (tVar 1) (tC (.int 0))) tNil) [dt K d] := fun d q => by
      subst q
      exact tya_cons (ty_op (ty_var rfl) ty_int (opt_ixL (i := 0) (atI_nat (j := 0) rfl))) tya_nil
    cases hC with
    | dot d e r h h1 h2 =>
      have ha := ix2 _ _ rfl
      exact tys_guard (φ := (· = true)) (yes rfl) (fun _ => pick ((ty_callE (_, _, r) h ha.1 (fun c T' hb => by dsimp only at hb; rw [if_pos h1] at hb; rw [if_pos h2] at hb; cases hb)).sub (fun v H _ z => ⟨rfl, z.2⟩)) ((ty_callKE (_, _, r) h ha.2 tysv_rev2 (fun c T' hb => by dsimp only at hb; rw [if_pos h1] at hb; rw [if_pos h2] at hb; cases hb)).sub (fun v H _ z => ⟨rfl, z.2⟩))) (fun z => Bool.noConfusion z)
    | dot1 d e r h h1 =>
      have ha := ix2 _ _ rfl
      exact tys_guard (φ := (· = true)) (yes rfl) (fun _ => pick ((ty_callE (_, _, r) h ha.1 (fun c T' hb => by dsimp only at hb; rw [if_neg (by rw [h1]; exact Bool.false_ne_true)] at hb; cases hb; exact erL rfl)).sub (fun v H _ z => by have hb := z.1; dsimp only at hb; rw [if_neg (by rw [h1]; exact Bool.false_ne_true)] at hb; cases hb)) ((ty_callKE (_, _, r) h ha.2 tysv_rev2 (fun c T' hb => by dsimp only at hb; rw [if_neg (by rw [h1]; exact Bool.false_ne_true)] at hb; cases hb; exact erL rfl)).sub (fun v H _ z => by have hb := z.1; dsimp only at hb; rw [if_neg (by rw [h1]; exact Bool.false_ne_true)] at hb; cases hb))) (fun z => Bool.noConfusion z)
    | dot2 d e r h h1 h2 =>
      have ha := ix2 _ _ rfl
      exact tys_guard (φ := (· = true)) (yes rfl) (fun _ => pick ((ty_callE (_, _, r) h ha.1 (fun c T' hb => by dsimp only at hb; rw [if_pos h1] at hb; rw [if_neg (by rw [h2]; exact Bool.false_ne_true)] at hb; cases hb; exact erL rfl)).sub (fun v H _ z => by have hb := z.1; dsimp only at hb; rw [if_pos h1] at hb; rw [if_neg (by rw [h2]; exact Bool.false_ne_true)] at hb; cases hb)) ((ty_callKE (_, _, r) h ha.2 tysv_rev2 (fun c T' hb => by dsimp only at hb; rw [if_pos h1] at hb; rw [if_neg (by rw [h2]; exact Bool.false_ne_true)] at hb; cases hb; exact erL rfl)).sub (fun v H _ z => by have hb := z.1; dsimp only at hb; rw [if_pos h1] at hb; rw [if_neg (by rw [h2]; exact Bool.false_ne_true)] at hb; cases hb))) (fun z => Bool.noConfusion z)
    | app d e r h h1 h2 =>
      have ha := ix2 _ _ rfl
      exact tys_guard (φ := (· = false)) (no (by decide)) (fun z => Bool.noConfusion z) fun _ => tys_guard (φ := (· = true)) (yes rfl) (fun _ => pick ((ty_callE (_, _, r) h ha.1 (fun c T' hb => by dsimp only at hb; rw [if_pos h1] at hb; rw [if_pos h2] at hb; cases hb)).sub (fun v H _ z => ⟨rfl, z.2⟩)) ((ty_callKE (_, _, r) h ha.2 tysv_rev2 (fun c T' hb => by dsimp only at hb; rw [if_pos h1] at hb; rw [if_pos h2] at hb; cases hb)).sub (fun v H _ z => ⟨rfl, z.2⟩))) (fun z => Bool.noConfusion z)
    | app1 d e r h h1 =>
      have ha := ix2 _ _ rfl
      exact tys_guard (φ := (· = false)) (no (by decide)) (fun z => Bool.noConfusion z) fun _ => tys_guard (φ := (· = true)) (yes rfl) (fun _ => pick ((ty_callE (_, _, r) h ha.1 (fun c T' hb => by dsimp only at hb; rw [if_neg (by rw [h1]; exact Bool.false_ne_true)] at hb; cases hb; exact erT rfl)).sub (fun v H _ z => by have hb := z.1; dsimp only at hb; rw [if_neg (by rw [h1]; exact Bool.false_ne_true)] at hb; cases hb)) ((ty_callKE (_, _, r) h ha.2 tysv_rev2 (fun c T' hb => by dsimp only at hb; rw [if_neg (by rw [h1]; exact Bool.false_ne_true)] at hb; cases hb; exact erT rfl)).sub (fun v H _ z => by have hb := z.1; dsimp only at hb; rw [if_neg (by rw [h1]; exact Bool.false_ne_true)] at hb; cases hb))) (fun z => Bool.noConfusion z)
    | app2 d e r h h1 h2 =>
      have ha := ix2 _ _ rfl
      exact tys_guard (φ := (· = false)) (no (by decide)) (fun z => Bool.noConfusion z) fun _ => tys_guard (φ := (· = true)) (yes rfl) (fun _ => pick ((ty_callE (_, _, r) h ha.1 (fun c T' hb => by dsimp only at hb; rw [if_pos h1] at hb; rw [if_neg (by rw [h2]; exact Bool.false_ne_true)] at hb; cases hb; exact erL rfl)).sub (fun v H _ z => by have hb := z.1; dsimp only at hb; rw [if_pos h1] at hb; rw [if_neg (by rw [h2]; exact Bool.false_ne_true)] at hb; cases hb)) ((ty_callKE (_, _, r) h ha.2 tysv_rev2 (fun c T' hb => by dsimp only at hb; rw [if_pos h1] at hb; rw [if_neg (by rw [h2]; exact Bool.false_ne_true)] at hb; cases hb; exact erL rfl)).sub (fun v H _ z => by have hb := z.1; dsimp only at hb; rw [if_pos h1] at hb; rw [if_neg (by rw [h2]; exact Bool.false_ne_true)] at hb; cases hb))) (fun z => Bool.noConfusion z)
    | tim d e r h h1 h2 =>
      have ha := ix2 _ _ rfl
      exact tys_guard (φ := (· = false)) (no (by decide)) (fun z => Bool.noConfusion z) fun _ => tys_guard (φ := (· = false)) (no (by decide)) (fun z => Bool.noConfusion z) fun _ => tys_guard (φ := (· = true)) (yes rfl) (fun _ => pick ((ty_callE (_, _, r) h ha.1 (fun c T' hb => by dsimp only at hb; rw [if_pos h1] at hb; rw [if_pos h2] at hb; cases hb)).sub (fun v H _ z => ⟨rfl, z.2⟩)) ((ty_callKE (_, _, r) h ha.2 tysv_rev2 (fun c T' hb => by dsimp only at hb; rw [if_pos h1] at hb; rw [if_pos h2] at hb; cases hb)).sub (fun v H _ z => ⟨rfl, z.2⟩))) (fun z => Bool.noConfusion z)
    | tim1 d e r h h1 =>
      have ha := ix2 _ _ rfl
      exact tys_guard (φ := (· = false)) (no (by decide)) (fun z => Bool.noConfusion z) fun _ => tys_guard (φ := (· = false)) (no (by decide)) (fun z => Bool.noConfusion z) fun _ => tys_guard (φ := (· = true)) (yes rfl) (fun _ => pick ((ty_callE (_, _, r) h ha.1 (fun c T' hb => by dsimp only at hb; rw [if_neg (by rw [h1]; exact Bool.false_ne_true)] at hb; cases hb; exact erT rfl)).sub (fun v H _ z => by have hb := z.1; dsimp only at hb; rw [if_neg (by rw [h1]; exact Bool.false_ne_true)] at hb; cases hb)) ((ty_callKE (_, _, r) h ha.2 tysv_rev2 (fun c T' hb => by dsimp only at hb; rw [if_neg (by rw [h1]; exact Bool.false_ne_true)] at hb; cases hb; exact erT rfl)).sub (fun v H _ z => by have hb := z.1; dsimp only at hb; rw [if_neg (by rw [h1]; exact Bool.false_ne_true)] at hb; cases hb))) (fun z => Bool.noConfusion z)
    | tim2 d e r h h1 h2 =>
      have ha := ix2 _ _ rfl
      exact tys_guard (φ := (· = false)) (no (by decide)) (fun z => Bool.noConfusion z) fun _ => tys_guard (φ := (· = false)) (no (by decide)) (fun z => Bool.noConfusion z) fun _ => tys_guard (φ := (· = true)) (yes rfl) (fun _ => pick ((ty_callE (_, _, r) h ha.1 (fun c T' hb => by dsimp only at hb; rw [if_pos h1] at hb; rw [if_neg h2] at hb; cases hb; exact erT rfl)).sub (fun v H _ z => by have hb := z.1; dsimp only at hb; rw [if_pos h1] at hb; rw [if_neg h2] at hb; cases hb)) ((ty_callKE (_, _, r) h ha.2 tysv_rev2 (fun c T' hb => by dsimp only at hb; rw [if_pos h1] at hb; rw [if_neg h2] at hb; cases hb; exact erT rfl)).sub (fun v H _ z => by have hb := z.1; dsimp only at hb; rw [if_pos h1] at hb; rw [if_neg h2] at hb; cases hb))) (fun z => Bool.noConfusion z)
    | tur d r h h1 =>
      have ha := ix1 _ rfl
      exact tys_guard (φ := (· = false)) (no (by decide)) (fun z => Bool.noConfusion z) fun _ => tys_guard (φ := (· = false)) (no (by decide)) (fun z => Bool.noConfusion z) fun _ => tys_guard (φ := (· = false)) (no (by decide)) (fun z => Bool.noConfusion z) fun _ => pick ((ty_callE (_, r) h ha (fun c T' hb => by dsimp only at hb; rw [if_pos h1] at hb; cases hb)).sub (fun v H _ z => ⟨rfl, z.2⟩)) ((ty_callKE (_, r) h ha tysv_id (fun c T' hb => by dsimp only at hb; rw [if_pos h1] at hb; cases hb)).sub (fun v H _ z => ⟨rfl, z.2⟩))
    | tur1 d r h h1 =>
      have ha := ix1 _ rfl
      exact tys_guard (φ := (· = false)) (no (by decide)) (fun z => Bool.noConfusion z) fun _ => tys_guard (φ := (· = false)) (no (by decide)) (fun z => Bool.noConfusion z) fun _ => tys_guard (φ := (· = false)) (no (by decide)) (fun z => Bool.noConfusion z) fun _ => pick ((ty_callE (_, r) h ha (fun c T' hb => by dsimp only at hb; rw [if_neg (by rw [h1]; exact Bool.false_ne_true)] at hb; cases hb; exact erT rfl)).sub (fun v H _ z => by have hb := z.1; dsimp only at hb; rw [if_neg (by rw [h1]; exact Bool.false_ne_true)] at hb; cases hb)) ((ty_callKE (_, r) h ha tysv_id (fun c T' hb => by dsimp only at hb; rw [if_neg (by rw [h1]; exact Bool.false_ne_true)] at hb; cases hb; exact erT rfl)).sub (fun v H _ z => by have hb := z.1; dsimp only at hb; rw [if_neg (by rw [h1]; exact Bool.false_ne_true)] at hb; cases hb))
  · obtain ⟨n, dd, rfl, e⟩ := e
    rcases e with ⟨rfl, rfl, hl⟩ | ⟨rfl, rfl, hl⟩
    · exact hdl_hit T.e_InvalidLine_InvalidLine n hl dr fun _ => tys_retW (ty_lstD (ds := [.str "line", val]) (tya_cons ty_str (tya_cons (ty_given rfl rfl (ty_var rfl)) tya_nil)) (by show 2 ≤ 1000000; decide))
    · exact hdl_miss T.e_InvalidTable_InvalidLine (hdl_hit T.e_InvalidTable_InvalidTable n hl dr fun _ => tys_retW (ty_lstD (ds := [.str "table", val]) (tya_cons ty_str (tya_cons (ty_given rfl rfl (ty_var rfl)) tya_nil)) (by show 2 ≤ 1000000; decide)))
end
section
variable {P : Program} {w : World} {K : PySem.W.Frag} {mg : Str → Option Value} {base : Heap}
def bentI (n i j : Nat) : List (List Int) := (List.range n).map fun k => (List.range n).map fun l => (if k = l then 1 else 0) + (if k = i ∧ l = j then 1 else 0)
theorem tab_ok {m : List (List Int)} {w : Nat} (h0 : m ≠ []) (h1 : m.length ≤ 24) (h2 : ∀ r ∈ m, r.length = w) (h3 : 1 ≤ w) (h4 : w ≤ 24) : isTableD (tabD m) = true := by
  cases m with
  | nil => exact absurd rfl h0
  | cons f r =>
    have hf : f.length = w := h2 f (List.mem_cons_self ..)
    show (decide ((((intsD f :: r.map intsD).length : Nat) : Int) ≤ 24) && (isLineD (intsD f) && (!decide (sizeD (intsD f) = 0) && (intsD f :: r.map intsD).all fun l => isLineOfD l (sizeD (intsD f) : Nat)))) = true
    have e1 : sizeD (intsD f) = w := by show (f.map PyData.int).length = w; rw [List.length_map]; exact hf
    rw [e1]
    have a1 : decide ((((intsD f :: r.map intsD).length : Nat) : Int) ≤ 24) = true := decide_eq_true (by rw [List.length_cons, List.length_map]; rw [List.length_cons] at h1; omega)
    have a2 : isLineD (intsD f) = true := by
      show (decide (((f.map PyData.int).length : Int) ≤ 24) && (f.map PyData.int).all isWholeD) = true
      rw [all_whole, List.length_map, hf, Bool.and_true]
      exact decide_eq_true (by omega)
    have a3 : decide (w = 0) = false := decide_eq_false (by omega)
    have a4 : ((intsD f :: r.map intsD).all fun l => isLineOfD l (w : Nat)) = true := by
      refine List.all_eq_true.mpr fun l hl => ?_
      have : ∃ q ∈ f :: r, intsD q = l := by
        have hl' : l ∈ (f :: r).map intsD := hl
        exact List.mem_map.mp hl'
      obtain ⟨q, hq, rfl⟩ := this
      show (decide (((q.map PyData.int).length : Int) = (w : Nat)) && (q.map PyData.int).all isWholeD) = true
      rw [all_whole, List.length_map, h2 q hq, Bool.and_true]
      exact decide_eq_true rfl
    rw [a1, a2, a3, a4]; rfl
theorem tyi_enumA {W : Wd} {Γ : Gam} {K : PySem.W.Frag} {te : TE} {α : Type} {xs : List α} {f : α → PyData} (y : α) (h : Ty W Γ te (dt K (.tuple (xs.map f)))) : TyI W Γ (iEnumT K (tCons te tNil)) ((List.range xs.length).map fun i => tupT K [dt K (.int (i : Nat)), dt K (f (xs.getD i y))]) := by
  have z := tyi_enumT (W := W) (Γ := Γ) (K := K) (Ts := (xs.map f).map (dt K)) (tya_cons (h.sub fun _ _ _ => data_tupT) tya_nil)
  have e : ((List.range ((xs.map f).map (dt K)).length).map fun i => tupT K [dt K (.int (i : Nat)), ((xs.map f).map (dt K)).getD i (isV .non)]) = ((List.range xs.length).map fun i => tupT K [dt K (.int (i : Nat)), dt K (f (xs.getD i y))]) := by
    rw [List.length_map, List.length_map]
    refine List.map_congr_left fun i hi => ?_
    have hi' : i < xs.length := List.mem_range.mp hi
    simp [List.getD_eq_getElem?_getD, List.getElem?_eq_getElem hi']
  rw [e] at z
  exact z
theorem tyi_enumN {W : Wd} {Γ : Gam} {K : PySem.W.Frag} {te : TE} {α : Type} {xs : List α} {f : α → PyData} {n : Nat} {F : Nat → PyData} (y : α) (hn : xs.length = n) (hF : ∀ i, i < n → f (xs.getD i y) = F i) (h : Ty W Γ te (dt K (.tuple (xs.map f)))) : TyI W Γ (iEnumT K (tCons te tNil)) ((List.range n).map fun i => tupT K [dt K (.int (i : Nat)), dt K (F i)]) := by
  have z := tyi_enumA y h
  rw [hn] at z
  have e : (List.range n).map (fun i => tupT K [dt K (.int (i : Nat)), dt K (f (xs.getD i y))]) = (List.range n).map (fun i => tupT K [dt K (.int (i : Nat)), dt K (F i)]) := List.map_congr_left fun i hi => by rw [hF i (List.mem_range.mp hi)]
  rw [e] at z
  exact z
theorem unit_len (n : Nat) : (unitI n).length = n := by rw [unitI, List.length_map, List.length_range]
theorem unit_rows {n : Nat} : ∀ r ∈ unitI n, r.length = n := fun r hr => by
  obtain ⟨i, _, rfl⟩ := List.mem_map.mp hr
  rw [List.length_map, List.length_range]
theorem bent_rows {n i j : Nat} : ∀ r ∈ bentI n i j, r.length = n := fun r hr => by
  obtain ⟨k, _, rfl⟩ := List.mem_map.mp hr
  rw [List.length_map, List.length_range]
theorem unit_getD {n k : Nat} (h : k < n) (d : List Int) : (unitI n).getD k d = (List.range n).map fun j => if k = j then 1 else 0 := by
  rw [List.getD_eq_getElem?_getD, unitI, List.getElem?_map, List.getElem?_range h]; rfl
theorem rng_getD {α : Type} {n l : Nat} (h : l < n) (g : Nat → α) (d : α) : ((List.range n).map g).getD l d = g l := by
  rw [List.getD_eq_getElem?_getD, List.getElem?_map, List.getElem?_range h]; rfl
theorem bent_ne {n i j : Nat} (hi : i < n) (hj : j < n) : bentI n i j ≠ unitI n := fun e => by
  have e1 : ((bentI n i j).getD i []).getD j 0 = ((unitI n).getD i []).getD j 0 := by rw [e]
  rw [bentI, rng_getD hi, rng_getD hj, unit_getD hi, rng_getD hj] at e1
  simp at e1
  omega
/-- the tables and what is said of them -/
structure UnOk (p : List (List Int) × Bool) : Prop where
  t : isTableD (tabD p.1) = true
  l : p.1.length ≤ 24
  w : ∀ r ∈ p.1, r.length ≤ 24
  u : p.2 = decide (p.1 = unitI p.1.length)
def manT (K : PySem.W.Frag) : Typ := exT fun n : Nat => gd (1 ≤ n ∧ n ≤ 24) (dt K (.int (n : Nat)))
def sp_law_units_right (K : PySem.W.Frag) : Sp := spT (fun _ : Bool => True) (fun b => [bx, dt K (.bool b)]) (fun _ => dt K (.bool true))
theorem un_unit {n : Nat} (h1 : 1 ≤ n) (h2 : n ≤ 24) : UnOk (unitI n, true) := by
  refine ⟨tab_ok (w := n) (fun e => ?_) (by rw [unit_len]; exact h2) unit_rows h1 h2, by rw [unit_len]; exact h2, fun r hr => by rw [unit_rows r hr]; exact h2, ?_⟩
  · have z := unit_len n
    rw [show unitI n = [] from e] at z
    simp at z
    omega
  · rw [unit_len]; simp
theorem un_of {m : List (List Int)} {w : Nat} (h0 : m ≠ []) (h1 : m.length ≤ 24) (h2 : ∀ r ∈ m, r.length = w) (h3 : 1 ≤ w) (h4 : w ≤ 24) (h5 : m ≠ unitI m.length) : UnOk (m, false) :=
  ⟨tab_ok h0 h1 h2 h3 h4, h1, fun r hr => by rw [h2 r hr]; exact h4, (decide_eq_false h5).symm⟩
theorem un_bent {n i j : Nat} (h1 : 1 ≤ n) (h2 : n ≤ 24) (hi : i < n) (hj : j < n) : UnOk (bentI n i j, false) := by
  have hl : (bentI n i j).length = n := by rw [bentI, List.length_map, List.length_range]
  exact un_of (w := n) (fun e => by rw [e] at hl; simp at hl; omega) (by omega) bent_rows h1 h2 (by rw [hl]; exact bent_ne hi hj)
/-- another width than height -/
theorem un_wide {m : List (List Int)} {w : Nat} (h0 : m ≠ []) (h1 : m.length ≤ 24) (h2 : ∀ r ∈ m, r.length = w) (h3 : 1 ≤ w) (h4 : w ≤ 24) (h5 : w ≠ m.length) : UnOk (m, false) := by
  refine un_of h0 h1 h2 h3 h4 fun e => ?_
  cases m with
  | nil => exact h0 rfl
  | cons f r =>
    have hf := h2 f (List.mem_cons_self ..)
    have := unit_rows f (e ▸ List.mem_cons_self .. : f ∈ unitI (f :: r).length)
    omega
theorem cut_last {α : Type} (l : List α) : cutD l none (some (-1)) = l.dropLast := by
  have e : HT.sIx l.length l.length (some (-1)) = l.length - 1 := by
    show (if (-1 : Int) < 0 then ((-1 : Int) + (l.length : Int)).toNat else min (-1 : Int).toNat l.length) = _
    rw [if_pos (by decide)]
    omega
  unfold cutD
  rw [e, HT.sIx_none, List.drop_zero, Nat.sub_zero, List.dropLast_eq_take]
def t3I (n : Nat) : List (List Int) := if 1 < n then (unitI n).dropLast else [[2]]
def t4I (n i j : Nat) : List (List Int) := if n < 24 then (unitI n).map (fun r => r ++ [0]) else bentI n i j
def t5I (n : Nat) : List (List Int) := (unitI n).map fun r => r.map fun v => 0 - v
def unL (n i j : Nat) : List (List (List Int) × Bool) := [(unitI n, true), (bentI n i j, false), (t3I n, false), (t4I n i j, false), (t5I n, false)]
theorem unL_ok {n i j : Nat} (h1 : 1 ≤ n) (h2 : n ≤ 24) (hi : i < n) (hj : j < n) : ∀ p ∈ unL n i j, UnOk p := by
  have ul := unit_len n
  have one : (unitI 1) = [[1]] := by decide
  intro p hp
  simp only [unL, List.mem_cons, List.not_mem_nil, or_false] at hp
  rcases hp with rfl | rfl | rfl | rfl | rfl
  · exact un_unit h1 h2
  · exact un_bent h1 h2 hi hj
  · unfold t3I
    by_cases c : 1 < n
    · rw [if_pos c]
      have l3 : (unitI n).dropLast.length = n - 1 := by rw [List.length_dropLast, ul]
      exact un_wide (w := n) (fun e => by rw [e] at l3; simp at l3; omega) (by omega) (fun r hr => unit_rows r (List.dropLast_subset _ hr)) h1 h2 (by omega)
    · rw [if_neg c]
      exact un_of (w := 1) (by simp) (by decide) (by simp) (by decide) (by decide) (by decide)
  · unfold t4I
    by_cases c : n < 24
    · rw [if_pos c]
      exact un_wide (w := n + 1) (fun e => by have z := congrArg List.length e; rw [List.length_map, ul] at z; simp at z; omega) (by rw [List.length_map, ul]; omega) (fun r hr => by obtain ⟨q, hq, rfl⟩ := List.mem_map.mp hr; rw [List.length_append, unit_rows q hq]; rfl) (by omega) (by omega) (by rw [List.length_map, ul]; omega)
    · rw [if_neg c]
      exact un_bent h1 h2 hi hj
  · have l5 : (t5I n).length = n := by rw [t5I, List.length_map, ul]
    refine un_of (w := n) (fun e => by rw [e] at l5; simp at l5; omega) (by omega) (fun r hr => by obtain ⟨q, hq, rfl⟩ := List.mem_map.mp hr; rw [List.length_map, unit_rows q hq]) h1 h2 fun e => ?_
    rw [l5] at e
    have e1 : ((t5I n).getD 0 []).getD 0 0 = ((unitI n).getD 0 []).getD 0 0 := by rw [e]
    have e2 : t5I n = (List.range n).map fun i => (List.range n).map fun j => 0 - (if i = j then (1 : Int) else 0) := by
      rw [t5I, unitI, List.map_map]
      refine List.map_congr_left fun i _ => ?_
      show ((List.range n).map _).map _ = _
      rw [List.map_map]; rfl
    rw [e2, rng_getD (by omega), rng_getD (by omega), unit_getD (by omega), rng_getD (by omega)] at e1
    simp at e1
theorem tab_okT {m : List (List Int)} (h1 : m.length ≤ 1000) (h2 : ∀ r ∈ m, r.length ≤ 1000) : okT (tabD m) := ⟨by rw [List.length_map]; exact h1, fun e he => by
  obtain ⟨r, hr, rfl⟩ := List.mem_map.mp he
  show (r.map PyData.int).length ≤ 1000
  rw [List.length_map]
  exact h2 r hr⟩
theorem opt_eqInts {W : Wd} {K : PySem.W.Frag} {a b : List Int} : OpT W (rEqA K) (dt K (intsD a)) (dt K (intsD b)) (dt K (.bool (decide (a = b)))) := by
  have z := opt_eqD (W := W) (K := K) (shaped_ints a) (shaped_ints b)
  rw [eqv_ints] at z
  exact z
theorem bent_item {W : Wd} {Γ : Gam} {K : PySem.W.Frag} {k l i j : Nat} {z : Int} (h1 : Ty W Γ (tVar 8) (dt K (.int z))) (h2 : Ty W Γ (tVar 9) (dt K (.int (k : Nat)))) (h3 : Ty W Γ (tVar 7) (dt K (.int (l : Nat)))) (h4 : Ty W Γ (tVar 4) (dt K (.int (i : Nat)))) (h5 : Ty W Γ (tVar 5) (dt K (.int (j : Nat)))) :
    Ty W Γ (tOp (rAddA K) (tVar 8) (tCB rInt (tCons (tOp (rEqA K) (tTup (tCons (tVar 9) (tCons (tVar 7) tNil))) (tTup (tCons (tVar 4) (tCons (tVar 5) tNil)))) tNil))) (dt K (.int (z + (if k = i ∧ l = j then 1 else 0)))) := by
  refine Ty.is (ty_op h1 (ty_cb (tya_cons (ty_op (ty_tupD (ds := [.int (k : Nat), .int (l : Nat)]) (tya_cons h2 (tya_cons h3 tya_nil)) (by show 2 ≤ 1000000; decide)) (ty_tupD (ds := [.int (i : Nat), .int (j : Nat)]) (tya_cons h4 (tya_cons h5 tya_nil)) (by show 2 ≤ 1000000; decide)) (opt_eqInts (a := [(k : Int), (l : Int)]) (b := [(i : Int), (j : Int)]))) tya_nil) cbt_intB) opt_add) ?_
  have q : ([(k : Int), (l : Int)] = [(i : Int), (j : Int)]) ↔ (k = i ∧ l = j) := ⟨fun h => by simp at h; exact ⟨by omega, by omega⟩, fun h => by rw [h.1, h.2]⟩
  by_cases c : k = i ∧ l = j
  · rw [decide_eq_true (q.mpr c), if_pos c]; rfl
  · rw [decide_eq_false (fun z => c (q.mp z)), if_neg c]; rfl
theorem ok_law_units_right (T : Tx P K mg) : FnOk P w K mg base (L2.CX P w) 9 T.a_law_units_right T.f_law_units_right ["box", "named"] (sp_law_units_right K) := by
  have G_law_unit := ok_law_unit (w := w) (base := base) T
  have G_law_same := ok_law_same (w := w) (base := base) T
  have G_law_take := ok_law_take (w := w) (base := base) T
  have G_is_unit := ok_is_unit (w := w) (base := base) T
  have nd := sc_law_units_right.nd
  refine fn_ty T.F_law_units_right sc_law_units_right (fun x _ => rfl) fun cdv Ar outer s H E hr => ⟨_, (pss_cons (pset 2 nd (pe_ix (k_ix (K := K) rfl) (pe_lst (pa_cons pe_int (pa_cons pe_int (pa_cons pe_int (pa_cons pe_int (pa_cons pe_int pa_nil)))))) (pcall G_law_take (hr.mono (by decide)) T.D_law_take (pa_cons (pv 0) (pa_cons pe_int pa_nil))) (fun _ _ => rfl)))
    (pss_cons (pset 3 nd (pcall G_law_unit (hr.mono (by decide)) T.D_law_unit (pa_cons (pv 2) pa_nil)))
    (pss_cons (ps_asg (pe_tup (pa_cons (pcall G_law_take (hr.mono (by decide)) T.D_law_take (pa_cons (pv 0) (pa_cons (pv 2) pa_nil))) (pa_cons (pcall G_law_take (hr.mono (by decide)) T.D_law_take (pa_cons (pv 0) (pa_cons (pv 2) pa_nil))) pa_nil))) (k_gtup (K := K) (n := 2) rfl (pgs_cons (pgn 4 nd) (pgs_cons (pgn 5 nd) pgs_nil))))
    (pss_cons (pset 6 nd (k_tuple (K := K) rfl T.m_tuple (pa_cons (plc [("k", 9), ("row", 10)] nd (k_ienumT (K := K) rfl T.m_enumerate (pa_cons (pv 3) pa_nil)) (fun _ _ _ _ _ => (k_gtup (K := K) (n := 2) rfl (pgs_cons (pgn 9 nd) (pgs_cons (pgn 10 nd) pgs_nil)))) (fun _ _ _ _ _ => pts_nil) (fun _ _ _ _ _ => (k_tuple (K := K) rfl T.m_tuple (pa_cons (plc [("l", 7), ("item", 8)] nd (k_ienumT (K := K) rfl T.m_enumerate (pa_cons (pv 10) pa_nil)) (fun _ _ _ _ _ => (k_gtup (K := K) (n := 2) rfl (pgs_cons (pgn 7 nd) (pgs_cons (pgn 8 nd) pgs_nil)))) (fun _ _ _ _ _ => pts_nil) (fun _ _ _ _ _ => (pe_op (k_add (K := K) rfl) (pv 8) (bi_int T.m_int (pa_cons (pe_cmpR (k_eq (K := K) rfl hr.units) (pe_tup (pa_cons (pv 9) (pa_cons (pv 7) pa_nil))) (pe_tup (pa_cons (pv 4) (pa_cons (pv 5) pa_nil))) (nomark _)) pa_nil)))) (by kernel_rfl)) pa_nil))) (by kernel_rfl)) pa_nil)))
    (pss_cons (pset 11 nd (pe_lst (pa_cons (pv 3) (pa_cons (pv 6) (pa_cons (pe_ifExp (pt_cmpR op_gt (pv 2) pe_int (nomark _)) (pe_slice (k_sl (K := K) rfl) (pv 3) po_none (po_some (pe_un un_neg pe_int))) (pe_tup (pa_cons (pe_tup (pa_cons pe_int pa_nil)) pa_nil))) (pa_cons (pe_ifExp (pt_cmpR op_lt (pv 2) pe_int (nomark _)) (k_tuple (K := K) rfl T.m_tuple (pa_cons (plc [("row", 10)] nd (k_itup (K := K) rfl (pv 3)) (fun _ _ _ _ _ => (pgn 10 nd)) (fun _ _ _ _ _ => pts_nil) (fun _ _ _ _ _ => (pe_op (k_add (K := K) rfl) (pv 10) (pe_tup (pa_cons pe_int pa_nil)))) (by kernel_rfl)) pa_nil)) (pv 6)) (pa_cons (k_tuple (K := K) rfl T.m_tuple (pa_cons (plc [("row", 10)] nd (k_itup (K := K) rfl (pv 3)) (fun _ _ _ _ _ => (pgn 10 nd)) (fun _ _ _ _ _ => pts_nil) (fun _ _ _ _ _ => (k_tuple (K := K) rfl T.m_tuple (pa_cons (plc [("item", 8)] nd (k_itup (K := K) rfl (pv 10)) (fun _ _ _ _ _ => (pgn 8 nd)) (fun _ _ _ _ _ => pts_nil) (fun _ _ _ _ _ => (pe_op op_sub pe_int (pv 8))) (by kernel_rfl)) pa_nil))) (by kernel_rfl)) pa_nil)) pa_nil)))))))
    (pss_one (ps_ret (pcall G_law_same (hr.mono (by decide)) T.D_law_same (pa_cons (plc [("table", 12)] nd (k_ilist (K := K) rfl (pv 11)) (fun _ _ _ _ _ => (pgn 12 nd)) (fun _ _ _ _ _ => pts_nil) (fun _ _ _ _ _ => (pe_ifExp (pt_val (pv 1)) (pcall G_is_unit (hr.mono (by decide)) T.D_is_unit (pa_cons (pv 12) pa_nil)) (pe_callKS G_is_unit (hr.mono (by decide)) rfl T.D_is_unit.g T.D_is_unit.k T.B_is_unit (fun _ => passE0) (pk_cons (pv 12) pk_nil)))) (by kernel_rfl)) (pa_cons (pe_lst (pa_cons pe_bl (pa_cons pe_bl (pa_cons pe_bl (pa_cons pe_bl (pa_cons pe_bl pa_nil)))))) pa_nil)))))))))), fun W x hC => ?_⟩
  have dig : ∀ (W' : Wd) (Γ : Gam) (n : Nat) (te : TE), Γ[0]? = some (some bx) → 0 < n → n ≤ 1000000 → Ty W' Γ te (dt K (.int (n : Nat))) → Ty W' Γ (tCall (sp_law_take K) [] E0 (tCons (tVar 0) (tCons te tNil))) (digT K n) := fun W' Γ n te h h0 h1 h2 => ty_call n ⟨h0, h1⟩ (tya_cons (ty_var h) (tya_cons h2 tya_nil))
  refine tys_seqE (tys_set (T := manT K) (any_sub (Ts := List.replicate 5 (manT K)) (ty_pick (n := 5) (tyl_lst (Ts := List.replicate 5 (manT K)) ?_ (by rw [List.length_replicate]; decide)).ty (dig _ _ 5 _ rfl (by decide) (by decide) (Ty.is ty_int rfl)) (by rw [List.length_replicate]; decide)) fun n hn v H z => by rw [rep_getD (by simpa using hn)] at z; exact z)) ?_
  · have m : ∀ (te : TE) (k : Nat), 1 ≤ k → k ≤ 24 → Ty W (List.map some [bx, dt K (.bool x)] ++ List.replicate 11 none) te (dt K (.int (k : Nat))) → Ty W (List.map some [bx, dt K (.bool x)] ++ List.replicate 11 none) te (manT K) := fun te k h1 h2 h => h.sub fun v H _ z => ⟨k, ⟨h1, h2⟩, z⟩
    exact tya_cons (m _ 1 (by decide) (by decide) ty_int) (tya_cons (m _ 2 (by decide) (by decide) ty_int) (tya_cons (m _ 3 (by decide) (by decide) ty_int) (tya_cons (m _ 4 (by decide) (by decide) ty_int) (tya_cons (m _ 24 (by decide) (by decide) ty_int) tya_nil))))
  refine TyS.openX (n := 2) rfl fun n => TyS.openG (n := 2) rfl fun hn => ?_
  obtain ⟨n1, n2⟩ := hn
  refine tys_seqE (tys_set (ty_call n (show n ≤ 1000 by omega) (tya_cons (ty_var rfl) tya_nil))) ?_
  refine tys_seqE (tys_asg (ty_tup (tya_cons (dig _ _ n _ rfl (by omega) (by omega) (ty_var rfl)) (tya_cons (dig _ _ n _ rfl (by omega) (by omega) (ty_var rfl)) tya_nil)) (by show 2 ≤ 1000000; decide)) tyg_pair) ?_
  refine TyS.openX (n := 4) rfl fun i => TyS.openG (n := 4) rfl fun hi => TyS.openX (n := 5) rfl fun j => TyS.openG (n := 5) rfl fun hj => ?_
  show TyS W [some bx, some (dt K (.bool x)), some (dt K (.int (n : Nat))), some (dt K (tabD (unitI n))), some (dt K (.int (i : Nat))), some (dt K (.int (j : Nat))), none, none, none, none, none, none, none] _ _ _ _ _
  refine tys_seqE (tys_set (T := dt K (tabD (bentI n i j))) ?bent) ?_
  case bent =>
    refine Ty.is (ty_tupG (f := fun k : Nat => intsD ((List.range n).map fun l => (if k = l then 1 else 0) + (if k = i ∧ l = j then 1 else 0))) (xs := List.range n) ?_) ?_
    · refine tyl_mapT (fun k : Nat => tupT K [dt K (.int (k : Nat)), dt K (intsD ((List.range n).map fun j => if k = j then 1 else 0))]) _ (tyi_enumN (F := fun k => intsD ((List.range n).map fun j => if k = j then 1 else 0)) (xs := unitI n) (f := intsD) [] (unit_len n) (fun k hk => by rw [unit_getD hk]) (ty_var rfl)) (by rw [List.length_range]; omega) (gok_pair (by decide) (by decide)) fun W' k hk => ⟨_, tyg_pair, ?_⟩
      refine Ty.is (ty_tupG (f := fun l : Nat => .int ((if k = l then 1 else 0) + (if k = i ∧ l = j then 1 else 0))) (xs := List.range n) ?_) ?_
      · refine tyl_mapT (fun l : Nat => tupT K [dt K (.int (l : Nat)), dt K (.int (if k = l then 1 else 0))]) _ (tyi_enumN (F := fun l => .int (if k = l then 1 else 0)) (xs := (List.range n).map fun j => if k = j then (1 : Int) else 0) (f := PyData.int) 0 (by rw [List.length_map, List.length_range]) (fun l hl => by rw [rng_getD hl]) (ty_var rfl)) (by rw [List.length_range]; omega) (gok_pair (by decide) (by decide)) fun W'' l hl => ⟨_, tyg_pair, ?_⟩
        exact bent_item (ty_var rfl) (ty_var rfl) (ty_var rfl) (ty_var rfl) (ty_var rfl)
      · rw [intsD, List.map_map]; rfl
    · rw [tabD, bentI, List.map_map]; rfl
  show TyS W [some bx, some (dt K (.bool x)), some (dt K (.int (n : Nat))), some (dt K (tabD (unitI n))), some (dt K (.int (i : Nat))), some (dt K (.int (j : Nat))), some (dt K (tabD (bentI n i j))), none, none, none, none, none, none] _ _ _ _ _
  refine tys_seqE (tys_set (T := lstT ((unL n i j).map fun p => dt K (tabD p.1))) ?tables) ?_
  case tables =>
    refine (tyl_lst (Ts := [dt K (tabD (unitI n)), dt K (tabD (bentI n i j)), dt K (tabD (t3I n)), dt K (tabD (t4I n i j)), dt K (tabD (t5I n))]) (tya_cons (ty_var rfl) (tya_cons (ty_var rfl) (tya_cons ?t3 (tya_cons ?t4 (tya_cons ?t5 tya_nil))))) (by show 5 ≤ 1000000; decide)).ty
    case t3 =>
      refine ty_if (φ := (· = decide ((1 : Int) < (n : Nat)))) (tt_test (ty_op (ty_var rfl) ty_int opt_gt)) (fun z => Ty.is (ty_slT (ty_var rfl) tyo_none (tyo_some (ty_un (ty_int (K := K)) unt_neg))) ?_) (fun z => Ty.is (ty_tupD (ds := [intsD [2]]) (tya_cons (ty_tupD (ds := [.int 2]) (tya_cons ty_int tya_nil) (by show 1 ≤ 1000000; decide)) tya_nil) (by show 1 ≤ 1000000; decide)) ?_)
      · have c : 1 < n := by have := of_decide_eq_true z.symm; omega
        show PyData.tuple (cutD ((unitI n).map intsD) none (some (-1))) = tabD (t3I n)
        rw [t3I, if_pos c, cut_last, tabD, List.map_dropLast]
      · have c : ¬ 1 < n := fun c => by have := of_decide_eq_false z.symm; omega
        show _ = tabD (t3I n)
        rw [t3I, if_neg c]; rfl
    case t4 =>
      refine ty_if (φ := (· = decide (((n : Nat) : Int) < 24))) (tt_test (ty_op (ty_var rfl) ty_int opt_lt)) (fun z => Ty.is (ty_tupG (f := fun r : List Int => intsD (r ++ [0])) (xs := unitI n) ?_) ?_) (fun z => Ty.is (ty_var rfl) ?_)
      · refine tyl_map (fun r => dt K (intsD r)) (fun r => dt K (intsD (r ++ [0]))) (tyi_tupA (f := intsD) (ty_var rfl)) (by rw [unit_len]; omega) (by decide) fun W' r hr => Ty.is (ty_op (ty_var rfl) (ty_tupD (ds := [.int 0]) (tya_cons ty_int tya_nil) (by show 1 ≤ 1000000; decide)) (opt_catT (by rw [List.length_map, unit_rows r hr]; show n + 1 ≤ 1000000; omega))) ?_
        rw [intsD, List.map_append]; rfl
      · have c : n < 24 := by have := of_decide_eq_true z.symm; omega
        show _ = tabD (t4I n i j)
        rw [t4I, if_pos c, tabD, List.map_map]; rfl
      · have c : ¬ n < 24 := fun c => by have := of_decide_eq_false z.symm; omega
        show _ = tabD (t4I n i j)
        rw [t4I, if_neg c]
    case t5 =>
      refine Ty.is (ty_tupG (f := fun r : List Int => intsD (r.map fun v => 0 - v)) (xs := unitI n) ?_) ?_
      · refine tyl_map (fun r => dt K (intsD r)) (fun r => dt K (intsD (r.map fun v => 0 - v))) (tyi_tupA (f := intsD) (ty_var rfl)) (by rw [unit_len]; omega) (by decide) fun W' r hr => Ty.is (ty_tupG (f := fun v : Int => .int (0 - v)) (xs := r) ?_) ?_
        · exact tyl_map (fun v : Int => dt K (.int v)) (fun v : Int => dt K (.int (0 - v))) (tyi_tupA (f := PyData.int) (ty_var rfl)) (by rw [unit_rows r hr]; omega) (by decide) fun W'' v hv => ty_op ty_int (ty_var rfl) opt_sub
        · rw [intsD, List.map_map]; rfl
      · show _ = tabD (t5I n)
        rw [t5I, tabD, List.map_map]; rfl
  have hs : smOk 8 (.list [.bool true, .bool false, .bool false, .bool false, .bool false]) := ⟨by show 5 ≤ 1000; decide, fun e he => by
    simp only [List.mem_cons, List.not_mem_nil, or_false] at he
    rcases he with rfl | rfl | rfl | rfl | rfl <;> exact trivial⟩
  refine TyS.never (tys_retW (ty_call (PyData.list [.bool true, .bool false, .bool false, .bool false, .bool false]) hs (tya_cons (Ty.is (ty_lstG (f := fun p : List (List Int) × Bool => .bool p.2) (xs := unL n i j) ?_) rfl) (tya_cons (ty_lstD (ds := [.bool true, .bool false, .bool false, .bool false, .bool false]) (tya_cons ty_bl (tya_cons ty_bl (tya_cons ty_bl (tya_cons ty_bl (tya_cons ty_bl tya_nil))))) (by show 5 ≤ 1000000; decide)) tya_nil))))
  refine tyl_map (fun p : List (List Int) × Bool => dt K (tabD p.1)) (fun p => dt K (.bool p.2)) (tyi_lst (ty_var rfl)) (by show 5 ≤ 1000000; decide) (by decide) fun W' p hp => ?_
  have u := unL_ok n1 n2 hi hj p hp
  have hc : okT (tabD p.1) ∧ (isTableD (tabD p.1) = true → ∃ a, tabD p.1 = tabD a ∧ a.length ≤ 1000 ∧ p.2 = decide (a = unitI a.length)) := ⟨tab_okT (Nat.le_trans u.l (by decide)) fun r hr => Nat.le_trans (u.w r hr) (by decide), fun _ => ⟨p.1, rfl, Nat.le_trans u.l (by decide), u.u⟩⟩
  exact ty_if (φ := (· = x)) (tt_B (ty_var rfl)) (fun _ => ty_callE0 (tabD p.1, p.2) hc (tya_cons (ty_var rfl) tya_nil) (if_pos u.t)) (fun _ => ty_callKE0 (tabD p.1, p.2) hc (tya_cons (ty_var rfl) tya_nil) tysv_id (if_pos u.t))
end
section
variable {P : Program} {w : World} {K : PySem.W.Frag} {mg : Str → Option Value} {base : Heap}
theorem stOk_ints {n : Nat} {l : List Int} (h : l.length ≤ 1000) : stOk (n + 2) (intsD l) := ⟨by rw [List.length_map]; exact h, fun e he => by
  obtain ⟨v, _, rfl⟩ := List.mem_map.mp he
  exact trivial⟩
theorem stOk_tab {n : Nat} {m : List (List Int)} (h : m.length ≤ 1000) (h2 : ∀ r ∈ m, r.length ≤ 1000) : stOk (n + 3) (tabD m) := ⟨by rw [List.length_map]; exact h, fun e he => by
  obtain ⟨r, hr, rfl⟩ := List.mem_map.mp he
  exact stOk_ints (h2 r hr)⟩
/-- no line of the width w -/
structure Bad1 (w : Nat) (d : PyData) : Prop where
  s : stOk 4 d
  z : sizeD d ≤ 1000
  n : isLineOfD d (w : Nat) = false
structure Bad2 (d : PyData) : Prop where
  s : stOk 4 d
  z : okT d
  n : isTableD d = false
structure Bad3 (d : PyData) : Prop where
  s : stOk 4 d
  z : sizeD d ≤ 1000
  n : isLineD d = false
def badT (K : PySem.W.Frag) (φ : PyData → Prop) : Typ := exT fun d : PyData => gd (φ d) (dt K d)
theorem ty_bad {W : Wd} {Γ : Gam} {K : PySem.W.Frag} {te : TE} {d : PyData} {φ : PyData → Prop} (h : Ty W Γ te (dt K d)) (hd : φ d) : Ty W Γ te (badT K φ) := h.sub fun v H _ z => ⟨d, hd, z⟩
def rowD (r : Str × List PyData × Str × PyData) : PyData := .list [.str r.1, .list r.2.1, .list [.str r.2.2.1, r.2.2.2]]
def rowsL (t : List (List Int)) (l : List Int) (bad wrong no far : PyData) : List (Str × List PyData × Str × PyData) :=
  [("dot", [no, no], "line", no), ("dot", [intsD l, bad], "line", bad), ("applied", [wrong, bad], "table", wrong), ("applied", [tabD t, bad], "line", bad),
   ("times", [wrong, wrong], "table", wrong), ("times", [tabD t, wrong], "table", wrong), ("times", [tabD t, far], "table", far), ("turned", [wrong], "table", wrong)]
/-- a table and a line as they stand here -/
structure TL (t : List (List Int)) (l : List Int) (w : Nat) : Prop where
  h0 : t ≠ []
  h1 : t.length ≤ 24
  h2 : ∀ r ∈ t, r.length = w
  w1 : 1 ≤ w
  w2 : w ≤ 24
  l1 : l.length = w
theorem line_is {l : List Int} (h : l.length ≤ 24) : isLineD (intsD l) = true := by
  show (decide (((l.map PyData.int).length : Int) ≤ 24) && (l.map PyData.int).all isWholeD) = true
  rw [all_whole, List.length_map, Bool.and_true]
  exact decide_eq_true (by omega)
theorem TL.tab {t : List (List Int)} {l : List Int} {w : Nat} (T : TL t l w) : isTableD (tabD t) = true := tab_ok T.h0 T.h1 T.h2 T.w1 T.w2
theorem TL.wid {t : List (List Int)} {l : List Int} {w : Nat} (T : TL t l w) : widD (tabD t) = w := by
  cases t with
  | nil => exact absurd rfl T.h0
  | cons f r =>
    show (f.map PyData.int).length = w
    rw [List.length_map]
    exact T.h2 f (List.mem_cons_self ..)
theorem TL.okt {t : List (List Int)} {l : List Int} {w : Nat} (T : TL t l w) : okT (tabD t) := tab_okT (Nat.le_trans T.h1 (by decide)) fun r hr => by rw [T.h2 r hr]; exact Nat.le_trans T.w2 (by decide)
theorem rows_ok {t : List (List Int)} {l : List Int} {w : Nat} {bad wrong no : PyData} {far : List (List Int)} (T : TL t l w) (h1 : Bad1 w bad) (h2 : Bad2 wrong) (h3 : Bad3 no) (f1 : far.length = w + 1) (f2 : ∀ r ∈ far, r.length ≤ 1000) :
    ∀ r ∈ rowsL t l bad wrong no (tabD far), CallOk r.1 r.2.1 r.2.2.1 r.2.2.2 ∧ stOk 4 r.2.2.2 := by
  intro r hr
  have nf : ¬ (true = false) := by decide
  have lz : sizeD (intsD l) ≤ 1000 := by show (l.map PyData.int).length ≤ 1000; rw [List.length_map, T.l1]; have := T.w2; omega
  have ls : (sizeD (intsD l) : Nat) = w := by show (l.map PyData.int).length = w; rw [List.length_map]; exact T.l1
  have li : isLineD (intsD l) = true := line_is (by rw [T.l1]; exact T.w2)
  simp only [rowsL, List.mem_cons, List.not_mem_nil, or_false] at hr
  rcases hr with rfl | rfl | rfl | rfl | rfl | rfl | rfl | rfl
  · exact ⟨.dot1 no no 0 ⟨h3.z, h3.z, fun q => absurd (q.symm.trans h3.n) nf⟩ h3.n, h3.s⟩
  · exact ⟨.dot2 (intsD l) bad 0 ⟨lz, h1.z, fun _ q => by rw [ls] at q; exact absurd (q.symm.trans h1.n) nf⟩ li (by rw [ls]; exact h1.n), h1.s⟩
  · exact ⟨.app1 wrong bad [] ⟨h2.z, h1.z, fun q => absurd (q.symm.trans h2.n) nf⟩ h2.n, h2.s⟩
  · exact ⟨.app2 (tabD t) bad [] ⟨T.okt, h1.z, fun _ q => by rw [show widD (tabD t, bad, ([] : List Int)).1 = w from T.wid] at q; exact absurd (q.symm.trans h1.n) nf⟩ T.tab (by rw [T.wid]; exact h1.n), h1.s⟩
  · exact ⟨.tim1 wrong wrong [] ⟨h2.z, h2.z, fun q => absurd (q.symm.trans h2.n) nf⟩ h2.n, h2.s⟩
  · exact ⟨.tim2 (tabD t) wrong [] ⟨T.okt, h2.z, fun _ q => absurd (q.symm.trans h2.n) nf⟩ T.tab (fun q => absurd (q.1.symm.trans h2.n) nf), h2.s⟩
  · have fs : sizeD (tabD far) = w + 1 := by show (far.map intsD).length = w + 1; rw [List.length_map]; exact f1
    have fw : far.length ≤ 1000 := by rw [f1]; have := T.w2; omega
    exact ⟨.tim2 (tabD t) (tabD far) [] ⟨T.okt, tab_okT fw f2, fun _ _ q => by
      have q' : sizeD (tabD far) = widD (tabD t) := q
      rw [fs, T.wid] at q'; omega⟩ T.tab (fun q => by
      have q' := q.2
      rw [fs, T.wid] at q'; omega), stOk_tab fw f2⟩
  · exact ⟨.tur1 wrong [] ⟨h2.z, fun q => absurd (q.symm.trans h2.n) nf⟩ h2.n, h2.s⟩
theorem st_tup {n : Nat} {ds : List PyData} (h : ds.length ≤ 1000) (k : ∀ e ∈ ds, stOk n e) : stOk (n + 1) (.tuple ds) := ⟨h, k⟩
theorem no_whole {ds : List PyData} {n : Int} (h : ds.all isWholeD = false) : isLineOfD (.tuple ds) n = false := by
  show (decide _ && ds.all isWholeD) = false
  rw [h, Bool.and_false]
theorem no_len {ds : List PyData} {w : Nat} (h : ds.length ≠ w) : isLineOfD (.tuple ds) (w : Nat) = false := by
  show (decide ((ds.length : Int) = (w : Nat)) && _) = false
  rw [decide_eq_false (by omega), Bool.false_and]
theorem flat1 {α : Type} (n : Nat) (x : α) : (List.replicate n [x]).flatten = List.replicate n x := List.flatten_replicate_singleton
theorem bad_tup {w : Nat} {ds : List PyData} (h1 : ds.length ≤ 1000) (h2 : ∀ e ∈ ds, stOk 3 e) (h3 : isLineOfD (.tuple ds) (w : Nat) = false) : Bad1 w (.tuple ds) := ⟨st_tup h1 h2, h1, h3⟩
theorem st_rep {k n : Nat} {d e : PyData} (h : stOk k d) (he : e ∈ List.replicate n d) : stOk k e := by
  obtain ⟨_, rfl⟩ := List.mem_replicate.mp he
  exact h
theorem all_rep {n : Nat} {d : PyData} (hn : 1 ≤ n) (h : isWholeD d = false) : (List.replicate n d).all isWholeD = false := by
  cases n with
  | zero => omega
  | succ n => rw [List.replicate_succ, List.all_cons, h, Bool.false_and]
theorem tab_first {f : PyData} {r : List PyData} (h : isLineD f = false) : isTableD (.tuple (f :: r)) = false := by
  show (decide ((((f :: r).length : Nat) : Int) ≤ 24) && (isLineD f && (!decide (sizeD f = 0) && (f :: r).all fun l => isLineOfD l (sizeD f : Nat)))) = false
  rw [h, Bool.false_and, Bool.and_false]
theorem tab_row {f x : PyData} {r : List PyData} (hx : x ∈ f :: r) (h : isLineOfD x (sizeD f : Nat) = false) : isTableD (.tuple (f :: r)) = false := by
  have e : ((f :: r).all fun l => isLineOfD l (sizeD f : Nat)) = false := by
    cases q : ((f :: r).all fun l => isLineOfD l (sizeD f : Nat)) with
    | false => rfl
    | true =>
      have z := List.all_eq_true.mp q x hx
      rw [h] at z
      cases z
  show (decide ((((f :: r).length : Nat) : Int) ≤ 24) && (isLineD f && (!decide (sizeD f = 0) && (f :: r).all fun l => isLineOfD l (sizeD f : Nat)))) = false
  rw [e]
  simp
theorem line_no {ds : List PyData} (h : ds.all isWholeD = false) : isLineD (.tuple ds) = false := by
  show (decide _ && ds.all isWholeD) = false
  rw [h, Bool.and_false]
theorem line_long {ds : List PyData} (h : 24 < ds.length) : isLineD (.tuple ds) = false := by
  show (decide ((ds.length : Int) ≤ 24) && _) = false
  rw [decide_eq_false (by omega), Bool.false_and]
theorem bad_tab {ds : List PyData} (h1 : ds.length ≤ 1000) (h2 : ∀ e ∈ ds, stOk 3 e ∧ sizeD e ≤ 1000) (h3 : isTableD (.tuple ds) = false) : Bad2 (.tuple ds) := ⟨st_tup h1 fun e he => (h2 e he).1, ⟨h1, fun e he => (h2 e he).2⟩, h3⟩
theorem bad_row {ds : List PyData} (h1 : ds.length ≤ 1000) (h2 : ∀ e ∈ ds, stOk 2 e) (h3 : isLineD (.tuple ds) = false) : Bad2 (.tuple [.tuple ds]) := bad_tab (by show 1 ≤ 1000; decide) (fun e he => by rw [List.mem_singleton.mp he]; exact ⟨st_tup h1 h2, h1⟩) (tab_first h3)
section
variable {W : Wd} {Γ : Gam} {K : PySem.W.Frag} {te : TE} {tl : TA}
theorem ty_row {which tag : Str} {args : List PyData} {g : PyData} (hz : args.length ≤ 1000) (ha : TyA W Γ tl (args.map (dt K))) (hg : Ty W Γ te (dt K g)) :
    Ty W Γ (tLst (tCons (tC (.str which)) (tCons (tLst tl) (tCons (tLst (tCons (tC (.str tag)) (tCons te tNil))) tNil)))) (dt K (rowD (which, args, tag, g))) :=
  ty_lstD (ds := [.str which, .list args, .list [.str tag, g]]) (tya_cons ty_str (tya_cons (ty_lstD ha (by omega)) (tya_cons (ty_lstD (ds := [.str tag, g]) (tya_cons ty_str (tya_cons hg tya_nil)) (by show 2 ≤ 1000000; decide)) tya_nil))) (by show 3 ≤ 1000000; decide)
theorem ty_listOf {ds : List PyData} (h : Ty W Γ te (dt K (.tuple ds))) : Ty W Γ (tCB (rLstOf K) (tCons te tNil)) (dt K (.list ds)) := (tyl_cb (tya_cons (h.sub fun _ _ _ => data_tupT) tya_nil) cbl_lstT).data
theorem ty_one {d : PyData} (h : Ty W Γ te (dt K d)) : Ty W Γ (tTup (tCons te tNil)) (dt K (.tuple [d])) := ty_tupD (ds := [d]) (tya_cons h tya_nil) (by show 1 ≤ 1000000; decide)
theorem ty_oneL {d : PyData} (h : Ty W Γ te (dt K d)) : Ty W Γ (tLst (tCons te tNil)) (dt K (.list [d])) := ty_lstD (ds := [d]) (tya_cons h tya_nil) (by show 1 ≤ 1000000; decide)
/-- (x,) * n -/
theorem ty_reps {tb : TE} {d : PyData} {j : Int} {n : Nat} (h : Ty W Γ te (dt K d)) (hb : Ty W Γ tb (dt K (.int j))) (hj : j = (n : Nat)) (h0 : 1 ≤ n) (h1 : n ≤ 1000) : Ty W Γ (tOp (rRepA K) (tTup (tCons te tNil)) tb) (dt K (.tuple (List.replicate n d))) := by
  subst hj
  refine Ty.is (ty_op (ty_one h) hb (opt_repA (by omega) (by omega) (by simp) (by show 1 ≤ 1000; decide))) ?_
  rw [Int.toNat_natCast, flat1]
theorem ty_badList {φ : PyData → Prop} {n : Nat} {tb : TE} (h : TyA W Γ tl (List.replicate n (badT K φ))) (hb : Ty W Γ tb (digT K n)) (hn : n ≤ 1000) : Ty W Γ (tOp (rIx K) (tLst tl) tb) (badT K φ) :=
  any_sub (Ts := List.replicate n (badT K φ)) (ty_pick (n := n) (tyl_lst h (by rw [List.length_replicate]; omega)).ty hb (by rw [List.length_replicate]; exact Nat.le_refl _)) fun k hk v H z => by rw [rep_getD (by simpa using hk)] at z; exact z
end
def sp_law_refused_right (K : PySem.W.Frag) : Sp := spT (fun x : List (List Int) × List Int × Nat × Bool => TL x.1 x.2.1 x.2.2.1) (fun x => [bx, dt K (tabD x.1), dt K (intsD x.2.1), dt K (.bool x.2.2.2)]) (fun _ => dt K (.bool true))
theorem ok_law_refused_right (T : Tx P K mg) : FnOk P w K mg base (L2.CX P w) 13 T.a_law_refused_right T.f_law_refused_right ["box", "table", "line", "named"] (sp_law_refused_right K) := by
  have G_law_table := ok_law_table (w := w) (base := base) T
  have G_law_take := ok_law_take (w := w) (base := base) T
  have G_law_call := ok_law_call (w := w) (base := base) T
  have G_law_still := ok_law_still (w := w) (base := base) T
  have nd := sc_law_refused_right.nd
  refine fn_ty T.F_law_refused_right sc_law_refused_right (fun x _ => rfl) fun cdv Ar outer s H E hr => ⟨_, (pss_cons (pset 4 nd (k_len (K := K) rfl T.m_len (pa_cons (pe_ix (k_ix (K := K) rfl) (pv 1) pe_int (fun _ _ => rfl)) pa_nil)))
    (pss_cons (pset 5 nd (pe_ix (k_ix (K := K) rfl) (pe_lst (pa_cons pe_non (pa_cons pe_int (pa_cons pe_str (pa_cons (k_list (K := K) rfl T.m_list (pa_cons (pv 2) pa_nil)) (pa_cons (pe_ifExp (pt_cmpR (k_ne (K := K) rfl hr.units) (pv 2) (pe_tup pa_nil) (nomark _)) (pe_op (k_add (K := K) rfl) (pe_slice (k_sl (K := K) rfl) (pv 2) po_none (po_some (pe_un un_neg pe_int))) (pe_tup (pa_cons pe_non pa_nil))) (pe_tup (pa_cons pe_non pa_nil))) (pa_cons (pe_op (k_repA (K := K) rfl) (pe_tup (pa_cons pe_bl pa_nil)) (pv 4)) (pa_cons (pe_op (k_add (K := K) rfl) (pv 2) (pe_tup (pa_cons pe_int pa_nil))) (pa_cons (pe_op (k_repA (K := K) rfl) (pe_tup (pa_cons pe_int pa_nil)) pe_int) (pa_cons (pe_disp (pps_cons pe_str pe_int pps_nil) rfl rfl (fun z => by cases z) (by decide)) pa_nil)))))))))) (pcall G_law_take (hr.mono (by decide)) T.D_law_take (pa_cons (pv 0) (pa_cons pe_int pa_nil))) (fun _ _ => rfl)))
    (pss_cons (pset 6 nd (pe_ix (k_ix (K := K) rfl) (pe_lst (pa_cons pe_non (pa_cons (pe_tup pa_nil) (pa_cons (pe_tup (pa_cons (pe_tup pa_nil) pa_nil)) (pa_cons (pe_lst (pa_cons (pv 2) pa_nil)) (pa_cons (pe_op (k_add (K := K) rfl) (pe_slice (k_sl (K := K) rfl) (pv 1) po_none (po_some pe_int)) (pe_tup (pa_cons (pe_op (k_repA (K := K) rfl) (pe_tup (pa_cons pe_int pa_nil)) (pe_op (k_add (K := K) rfl) (pv 4) pe_int)) pa_nil))) (pa_cons (pe_tup (pa_cons (pe_op (k_repA (K := K) rfl) (pe_tup (pa_cons pe_bl pa_nil)) (pv 4)) pa_nil)) (pa_cons (k_tuple (K := K) rfl T.m_tuple (pa_cons (plc [("row", 7)] nd (k_itup (K := K) rfl (pv 1)) (fun _ _ _ _ _ => (pgn 7 nd)) (fun _ _ _ _ _ => pts_nil) (fun _ _ _ _ _ => (k_list (K := K) rfl T.m_list (pa_cons (pv 7) pa_nil))) (by kernel_rfl)) pa_nil)) (pa_cons (pe_tup (pa_cons (pe_op (k_repA (K := K) rfl) (pe_tup (pa_cons pe_int pa_nil)) pe_int) pa_nil)) (pa_cons (pe_op (k_repA (K := K) rfl) (pe_tup (pa_cons (pe_tup (pa_cons pe_int pa_nil)) pa_nil)) pe_int) (pa_cons pe_str (pa_cons pe_int pa_nil)))))))))))) (pcall G_law_take (hr.mono (by decide)) T.D_law_take (pa_cons (pv 0) (pa_cons pe_int pa_nil))) (fun _ _ => rfl)))
    (pss_cons (pset 8 nd (pe_ix (k_ix (K := K) rfl) (pe_lst (pa_cons pe_non (pa_cons pe_int (pa_cons pe_str (pa_cons (pe_lst (pa_cons pe_int (pa_cons pe_int pa_nil))) (pa_cons (pe_tup (pa_cons pe_non pa_nil)) (pa_cons (pe_tup (pa_cons pe_bl pa_nil)) (pa_cons (pe_op (k_repA (K := K) rfl) (pe_tup (pa_cons pe_int pa_nil)) pe_int) (pa_cons (pe_disp (pps_cons pe_str pe_int pps_nil) rfl rfl (fun z => by cases z) (by decide)) pa_nil))))))))) (pcall G_law_take (hr.mono (by decide)) T.D_law_take (pa_cons (pv 0) (pa_cons pe_int pa_nil))) (fun _ _ => rfl)))
    (pss_cons (pset 9 nd (pcall G_law_table (hr.mono (by decide)) T.D_law_table (pa_cons (pv 0) (pa_cons (pe_op (k_add (K := K) rfl) (pv 4) pe_int) (pa_cons pe_int pa_nil)))))
    (pss_cons (pset 10 nd (pe_lst (pa_cons (pe_lst (pa_cons pe_str (pa_cons (pe_lst (pa_cons (pv 8) (pa_cons (pv 8) pa_nil))) (pa_cons (pe_lst (pa_cons pe_str (pa_cons (pv 8) pa_nil))) pa_nil)))) (pa_cons (pe_lst (pa_cons pe_str (pa_cons (pe_lst (pa_cons (pv 2) (pa_cons (pv 5) pa_nil))) (pa_cons (pe_lst (pa_cons pe_str (pa_cons (pv 5) pa_nil))) pa_nil)))) (pa_cons (pe_lst (pa_cons pe_str (pa_cons (pe_lst (pa_cons (pv 6) (pa_cons (pv 5) pa_nil))) (pa_cons (pe_lst (pa_cons pe_str (pa_cons (pv 6) pa_nil))) pa_nil)))) (pa_cons (pe_lst (pa_cons pe_str (pa_cons (pe_lst (pa_cons (pv 1) (pa_cons (pv 5) pa_nil))) (pa_cons (pe_lst (pa_cons pe_str (pa_cons (pv 5) pa_nil))) pa_nil)))) pa_nil))))))
    (pss_cons (pset 10 nd (pe_op (k_add (K := K) rfl) (pv 10) (pe_lst (pa_cons (pe_lst (pa_cons pe_str (pa_cons (pe_lst (pa_cons (pv 6) (pa_cons (pv 6) pa_nil))) (pa_cons (pe_lst (pa_cons pe_str (pa_cons (pv 6) pa_nil))) pa_nil)))) (pa_cons (pe_lst (pa_cons pe_str (pa_cons (pe_lst (pa_cons (pv 1) (pa_cons (pv 6) pa_nil))) (pa_cons (pe_lst (pa_cons pe_str (pa_cons (pv 6) pa_nil))) pa_nil)))) (pa_cons (pe_lst (pa_cons pe_str (pa_cons (pe_lst (pa_cons (pv 1) (pa_cons (pv 9) pa_nil))) (pa_cons (pe_lst (pa_cons pe_str (pa_cons (pv 9) pa_nil))) pa_nil)))) (pa_cons (pe_lst (pa_cons pe_str (pa_cons (pe_lst (pa_cons (pv 6) pa_nil)) (pa_cons (pe_lst (pa_cons pe_str (pa_cons (pv 6) pa_nil))) pa_nil)))) pa_nil)))))))
    (pss_cons (ps_for PassesOwn.never rfl (k_ilist (K := K) rfl (pv 10)) (k_gunl (K := K) (n := 3) rfl (pgs_cons (pgn 11 nd) (pgs_cons (pgn 12 nd) (pgs_cons (pgn 13 nd) pgs_nil)))) (pss_cons (pset 14 nd (pcall G_law_call (hr.mono (by decide)) T.D_law_call (pa_cons (pv 11) (pa_cons (pv 12) (pa_cons (pv 3) pa_nil)))))
    (pss_cons (ps_if (PW.pt (pw_or (pt_cmpR (k_ne (K := K) rfl hr.units) (pe_ix (k_ix (K := K) rfl) (pv 14) pe_int (fun _ _ => rfl)) (pe_ix (k_ix (K := K) rfl) (pv 13) pe_int (fun _ _ => rfl)) (nomark _)) (pw_or1 (pt_not (pt_val (pcall G_law_still (hr.mono (by decide)) T.D_law_still (pa_cons (pe_ix (k_ix (K := K) rfl) (pv 14) pe_int (fun _ _ => rfl)) (pa_cons (pe_ix (k_ix (K := K) rfl) (pv 13) pe_int (fun _ _ => rfl)) pa_nil)))))))) (pss_one (ps_ret pe_bl)) pss_nil)
    (pss_one (pset 3 nd (pe_not (pv 3)))))))
    (pss_one (ps_ret pe_bl)))))))))), fun W x hC => ?_⟩
  obtain ⟨t, l, w, b⟩ := x
  have TLh : TL t l w := hC
  have w1 := TLh.w1
  have w2 := TLh.w2
  have l1 := TLh.l1
  have dig : ∀ (W' : Wd) (Γ : Gam) (n : Nat) (te : TE), Γ[0]? = some (some bx) → 0 < n → n ≤ 1000000 → Ty W' Γ te (dt K (.int (n : Nat))) → Ty W' Γ (tCall (sp_law_take K) [] E0 (tCons (tVar 0) (tCons te tNil))) (digT K n) := fun W' Γ n te h h0 h1 h2 => ty_call n ⟨h0, h1⟩ (tya_cons (ty_var h) (tya_cons h2 tya_nil))
  refine tys_seqE (tys_set (T := dt K (.int (w : Nat))) ?_) ?_
  · obtain ⟨f, r, rfl⟩ : ∃ f r, t = f :: r := by
      cases t with
      | nil => exact absurd rfl TLh.h0
      | cons f r => exact ⟨f, r, rfl⟩
    exact Ty.is (ty_cb (tya_cons (ty_op (ty_var rfl) ty_int (opt_ix0 (d := intsD f) (ds := r.map intsD))) tya_nil) cbt_lenT) (by rw [List.length_map, TLh.h2 f (List.mem_cons_self ..)])
  show TyS W [some bx, some (dt K (tabD t)), some (dt K (intsD l)), some (dt K (.bool b)), some (dt K (.int (w : Nat))), none, none, none, none, none, none, none, none, none, none] _ _ _ _ _
  refine tys_seqE (tys_set (T := badT K (Bad1 w)) (ty_badList (n := 9) (tya_cons (ty_bad ty_non ⟨trivial, by decide, rfl⟩) (tya_cons (ty_bad (ty_int (n := 7)) ⟨trivial, by decide, rfl⟩) (tya_cons (ty_bad (ty_str (x := "12")) ⟨by show _ ≤ 1000; decide, by show _ ≤ 1000; decide, rfl⟩) (tya_cons (ty_bad (ty_listOf (ds := l.map .int) (ty_var rfl)) ?b4) (tya_cons ?b5 (tya_cons (ty_bad (ty_reps (n := w) ty_bl (ty_var rfl) rfl w1 (by omega)) ?b6) (tya_cons (ty_bad (ty_op (ty_var rfl) (ty_one ty_int) (opt_catT (ds := l.map .int) (es := [.int 0]) (by rw [List.length_map]; show l.length + 1 ≤ 1000000; omega))) ?b7) (tya_cons (ty_bad (ty_reps (n := 25) (ty_int (n := 0)) (ty_int (n := 25)) rfl (by decide) (by decide)) ?b8) (tya_cons (ty_bad (ty_disp1 ty_str ty_int) ⟨⟨by decide, _, _, rfl⟩, by show 1 ≤ 1000; decide, rfl⟩) tya_nil))))))))) (dig _ _ 9 _ rfl (by decide) (by decide) (Ty.is ty_int rfl)) (by decide))) ?_
  case b4 => exact ⟨⟨by rw [List.length_map]; omega, fun e he => by obtain ⟨v, _, rfl⟩ := List.mem_map.mp he; exact trivial⟩, by show (l.map PyData.int).length ≤ 1000; rw [List.length_map]; omega, rfl⟩
  case b5 =>
    have hl : l ≠ [] := fun e => by rw [e] at l1; simp at l1; omega
    refine ty_if (φ := (· = true)) (Tt.is (tt_test (ty_op (ty_var rfl) (ty_tupD (ds := []) tya_nil (by decide)) (opt_neD (shaped_ints l) rfl))) ?_) (fun _ => ty_bad (d := .tuple ((l.map PyData.int).dropLast ++ [.none])) (Ty.is (ty_op (ty_slT (ds := l.map .int) (ty_var rfl) tyo_none (tyo_some (ty_un (ty_int (K := K)) unt_neg))) (ty_one ty_non) (opt_catT ?_)) ?_) (bad_tup ?_ ?_ (no_whole ?_))) (fun z => Bool.noConfusion z)
    · rw [intsD, eqv_nil, List.length_map, decide_eq_false (fun z => hl (List.eq_nil_of_length_eq_zero z))]; rfl
    · show (cutD (l.map PyData.int) none (some (-1))).length + 1 ≤ 1000000
      rw [cut_last, List.length_dropLast, List.length_map]; omega
    · show PyData.tuple (cutD (l.map PyData.int) none (some (-1)) ++ [.none]) = _
      rw [cut_last]
    · rw [List.length_append, List.length_dropLast, List.length_map]; show l.length - 1 + 1 ≤ 1000; omega
    · intro e he
      rcases List.mem_append.mp he with he | he
      · obtain ⟨v, _, rfl⟩ := List.mem_map.mp (List.dropLast_subset _ he); exact trivial
      · rw [List.mem_singleton.mp he]; exact trivial
    · rw [List.all_append]
      show (_ && (false && true)) = false
      rw [Bool.false_and, Bool.and_false]
  case b6 => exact bad_tup (by rw [List.length_replicate]; omega) (fun e he => st_rep (d := .bool true) trivial he) (no_whole (all_rep w1 rfl))
  case b7 => exact bad_tup (by rw [List.length_append, List.length_map]; show l.length + 1 ≤ 1000; omega) (fun e he => by
      rcases List.mem_append.mp he with he | he
      · obtain ⟨v, _, rfl⟩ := List.mem_map.mp he; exact trivial
      · rw [List.mem_singleton.mp he]; exact trivial) (no_len (by rw [List.length_append, List.length_map]; show l.length + 1 ≠ w; omega))
  case b8 => exact bad_tup (by rw [List.length_replicate]; decide) (fun e he => st_rep (d := .int 0) trivial he) (no_len (by rw [List.length_replicate]; omega))
  refine TyS.openX (n := 5) rfl fun bad => TyS.openG (n := 5) rfl fun hb => ?_
  show TyS W [some bx, some (dt K (tabD t)), some (dt K (intsD l)), some (dt K (.bool b)), some (dt K (.int (w : Nat))), some (dt K bad), none, none, none, none, none, none, none, none, none] _ _ _ _ _
  refine tys_seqE (tys_set (T := badT K Bad2) (ty_badList (n := 11) (tya_cons (ty_bad ty_non ⟨trivial, trivial, rfl⟩) (tya_cons (ty_bad (ty_tupD (ds := []) tya_nil (by decide)) (bad_tab (by decide) (fun e he => by cases he) rfl)) (tya_cons (ty_bad (ty_one (ty_tupD (ds := []) tya_nil (by decide))) (bad_tab (by show 1 ≤ 1000; decide) (fun e he => by rw [List.mem_singleton.mp he]; exact ⟨st_tup (by decide) (fun e he => by cases he), by decide⟩) rfl)) (tya_cons (ty_bad (ty_oneL (ty_var rfl)) ?c4) (tya_cons ?c5 (tya_cons (ty_bad (ty_one (ty_reps (n := w) ty_bl (ty_var rfl) rfl w1 (by omega))) ?c6) (tya_cons (ty_bad (Ty.is (ty_tupG (f := linD) (xs := t) ?c7) rfl) ?c7b) (tya_cons (ty_bad (ty_one (ty_reps (n := 25) (ty_int (n := 0)) (ty_int (n := 25)) rfl (by decide) (by decide))) ?c8) (tya_cons (ty_bad (ty_reps (n := 25) (ty_one (ty_int (n := 1))) (ty_int (n := 25)) rfl (by decide) (by decide)) ?c9) (tya_cons (ty_bad (ty_str (x := "table")) ⟨by show _ ≤ 1000; decide, trivial, rfl⟩) (tya_cons (ty_bad (ty_int (n := 7)) ⟨trivial, trivial, rfl⟩) tya_nil))))))))))) (dig _ _ 11 _ rfl (by decide) (by decide) (Ty.is ty_int rfl)) (by decide))) ?_
  case c4 => exact ⟨⟨by show 1 ≤ 1000; decide, fun e he => by rw [List.mem_singleton.mp he]; exact stOk_ints (n := 1) (by omega)⟩, trivial, rfl⟩
  case c5 =>
    obtain ⟨f, r, rfl⟩ : ∃ f r, t = f :: r := by
      cases t with
      | nil => exact absurd rfl TLh.h0
      | cons f r => exact ⟨f, r, rfl⟩
    have hf := TLh.h2 f (List.mem_cons_self ..)
    have hc : cutD ((f :: r).map intsD) none (some 1) = [intsD f] := by
      have e : HT.sIx ((f :: r).map intsD).length ((f :: r).map intsD).length (some 1) = 1 := by
        show min 1 _ = 1
        rw [List.length_map, List.length_cons]; omega
      unfold cutD
      rw [e]; rfl
    have q : Ty W [some bx, some (dt K (tabD (f :: r))), some (dt K (intsD l)), some (dt K (.bool b)), some (dt K (.int (w : Nat))), some (dt K bad), none, none, none, none, none, none, none, none, none] (tSl (rSlAll K) (tVar 1) tNoPart (tPart (tC (.int 1)))) (dt K (.tuple [intsD f])) := Ty.is (ty_slT (ds := (f :: r).map intsD) (ty_var rfl) tyo_none (tyo_some (ty_int (K := K)))) (by rw [hc])
    refine ty_bad (ty_op q (ty_one (ty_reps (n := w + 1) (ty_int (n := 1)) (ty_op (ty_var rfl) ty_int opt_add) rfl (by omega) (by omega))) (opt_catT (ds := [intsD f]) (es := [.tuple (List.replicate (w + 1) (.int 1))]) (by show 2 ≤ 1000000; decide))) (bad_tab (by show 2 ≤ 1000; decide) (fun e he => ?_) ?_)
    · have he' : e = intsD f ∨ e = .tuple (List.replicate (w + 1) (.int 1)) := by simpa using he
      rcases he' with rfl | rfl
      · exact ⟨stOk_ints (n := 1) (by omega), by show (f.map PyData.int).length ≤ 1000; rw [List.length_map]; omega⟩
      · exact ⟨st_tup (by rw [List.length_replicate]; omega) (fun e he => st_rep (d := .int 1) trivial he), by show (List.replicate (w + 1) (PyData.int 1)).length ≤ 1000; rw [List.length_replicate]; omega⟩
    · have z : isLineOfD (.tuple (List.replicate (w + 1) (.int 1))) (sizeD (intsD f) : Nat) = false := by
        have e : sizeD (intsD f) = w := by show (f.map PyData.int).length = w; rw [List.length_map]; exact hf
        rw [e]
        exact no_len (by rw [List.length_replicate]; omega)
      exact tab_row (x := .tuple (List.replicate (w + 1) (.int 1))) (by simp) z
  case c6 => exact bad_row (by rw [List.length_replicate]; omega) (fun e he => st_rep (d := .bool true) trivial he) (line_no (all_rep w1 rfl))
  case c7 => exact tyl_map (fun r => dt K (intsD r)) (fun r => dt K (linD r)) (tyi_tupA (f := intsD) (ty_var rfl)) (by have := TLh.h1; omega) (by decide) fun W' r hr => ty_listOf (ds := r.map .int) (ty_var rfl)
  case c7b =>
    refine bad_tab (by rw [List.length_map]; have := TLh.h1; omega) (fun e he => ?_) ?_
    · obtain ⟨r, hr, rfl⟩ := List.mem_map.mp he
      have := TLh.h2 r hr
      exact ⟨⟨by rw [List.length_map]; omega, fun e he => by obtain ⟨v, _, rfl⟩ := List.mem_map.mp he; exact trivial⟩, by show (r.map PyData.int).length ≤ 1000; rw [List.length_map]; omega⟩
    · cases t with
      | nil => exact absurd rfl TLh.h0
      | cons f r => exact tab_first rfl
  case c8 => exact bad_row (by rw [List.length_replicate]; decide) (fun e he => st_rep (d := .int 0) trivial he) (line_long (by rw [List.length_replicate]; decide))
  case c9 =>
    refine bad_tab (by rw [List.length_replicate]; decide) (fun e he => ?_) ?_
    · obtain ⟨_, rfl⟩ := List.mem_replicate.mp he
      exact ⟨st_tup (by show 1 ≤ 1000; decide) (fun e he => by rw [List.mem_singleton.mp he]; exact trivial), by show 1 ≤ 1000; decide⟩
    · rfl
  refine TyS.openX (n := 6) rfl fun wrong => TyS.openG (n := 6) rfl fun hw => ?_
  show TyS W [some bx, some (dt K (tabD t)), some (dt K (intsD l)), some (dt K (.bool b)), some (dt K (.int (w : Nat))), some (dt K bad), some (dt K wrong), none, none, none, none, none, none, none, none] _ _ _ _ _
  refine tys_seqE (tys_set (T := badT K Bad3) (ty_badList (n := 8) (tya_cons (ty_bad ty_non ⟨trivial, by decide, rfl⟩) (tya_cons (ty_bad (ty_int (n := 7)) ⟨trivial, by decide, rfl⟩) (tya_cons (ty_bad (ty_str (x := "12")) ⟨by show _ ≤ 1000; decide, by show _ ≤ 1000; decide, rfl⟩) (tya_cons (ty_bad (ty_lstD (ds := [.int 1, .int 2]) (tya_cons ty_int (tya_cons ty_int tya_nil)) (by show 2 ≤ 1000000; decide)) ?d4) (tya_cons (ty_bad (ty_one ty_non) ?d5) (tya_cons (ty_bad (ty_one (ty_bl (b := true))) ?d6) (tya_cons (ty_bad (ty_reps (n := 25) (ty_int (n := 0)) (ty_int (n := 25)) rfl (by decide) (by decide)) ?d7) (tya_cons (ty_bad (ty_disp1 ty_str ty_int) ⟨⟨by decide, _, _, rfl⟩, by show 1 ≤ 1000; decide, rfl⟩) tya_nil)))))))) (dig _ _ 8 _ rfl (by decide) (by decide) (Ty.is ty_int rfl)) (by decide))) ?_
  case d4 => exact ⟨⟨by show 2 ≤ 1000; decide, fun e he => by
    have he' : e = .int 1 ∨ e = .int 2 := by simpa using he
    rcases he' with rfl | rfl <;> exact trivial⟩, by show 2 ≤ 1000; decide, rfl⟩
  case d5 => exact ⟨st_tup (by show 1 ≤ 1000; decide) (fun e he => by rw [List.mem_singleton.mp he]; exact trivial), by show 1 ≤ 1000; decide, rfl⟩
  case d6 => exact ⟨st_tup (by show 1 ≤ 1000; decide) (fun e he => by rw [List.mem_singleton.mp he]; exact trivial), by show 1 ≤ 1000; decide, rfl⟩
  case d7 => exact ⟨st_tup (by rw [List.length_replicate]; decide) (fun e he => st_rep (d := .int 0) trivial he), by show (List.replicate 25 (PyData.int 0)).length ≤ 1000; rw [List.length_replicate]; decide, line_long (by rw [List.length_replicate]; decide)⟩
  refine TyS.openX (n := 8) rfl fun no => TyS.openG (n := 8) rfl fun hno => ?_
  refine tys_seqE (tys_set (T := tableT K (w + 1) 2) (ty_call (w + 1, 2) ⟨by show w + 1 ≤ 1000; omega, by show 2 ≤ 1000; decide⟩ (tya_cons (ty_var rfl) (tya_cons (Ty.is (ty_op (ty_var rfl) ty_int opt_add) rfl) (tya_cons (Ty.is ty_int rfl) tya_nil))))) ?_
  refine TyS.openX (n := 9) rfl fun far => TyS.openG (n := 9) rfl fun hfar => ?_
  show TyS W [some bx, some (dt K (tabD t)), some (dt K (intsD l)), some (dt K (.bool b)), some (dt K (.int (w : Nat))), some (dt K bad), some (dt K wrong), none, some (dt K no), some (dt K (tabD far)), none, none, none, none, none] _ _ _ _ _
  have rok := rows_ok TLh hb hw hno hfar.1 (fun r hr => by rw [(hfar.2 r hr).1]; decide)
  refine tys_seqE (tys_set (T := lstT (((rowsL t l bad wrong no (tabD far)).take 4).map fun r => dt K (rowD r))) (tyl_lst (Ts := ((rowsL t l bad wrong no (tabD far)).take 4).map fun r => dt K (rowD r)) (tya_cons (ty_row (args := [no, no]) (by show 2 ≤ 1000; decide) (tya_cons (ty_var rfl) (tya_cons (ty_var rfl) tya_nil)) (ty_var rfl)) (tya_cons (ty_row (args := [intsD l, bad]) (by show 2 ≤ 1000; decide) (tya_cons (ty_var rfl) (tya_cons (ty_var rfl) tya_nil)) (ty_var rfl)) (tya_cons (ty_row (args := [wrong, bad]) (by show 2 ≤ 1000; decide) (tya_cons (ty_var rfl) (tya_cons (ty_var rfl) tya_nil)) (ty_var rfl)) (tya_cons (ty_row (args := [tabD t, bad]) (by show 2 ≤ 1000; decide) (tya_cons (ty_var rfl) (tya_cons (ty_var rfl) tya_nil)) (ty_var rfl)) tya_nil)))) (by show 4 ≤ 1000000; decide)).ty) ?_
  refine tys_seqE (tys_set (T := lstT ((rowsL t l bad wrong no (tabD far)).map fun r => dt K (rowD r))) (ty_op (ty_var rfl) (tyl_lst (Ts := ((rowsL t l bad wrong no (tabD far)).drop 4).map fun r => dt K (rowD r)) (tya_cons (ty_row (args := [wrong, wrong]) (by show 2 ≤ 1000; decide) (tya_cons (ty_var rfl) (tya_cons (ty_var rfl) tya_nil)) (ty_var rfl)) (tya_cons (ty_row (args := [tabD t, wrong]) (by show 2 ≤ 1000; decide) (tya_cons (ty_var rfl) (tya_cons (ty_var rfl) tya_nil)) (ty_var rfl)) (tya_cons (ty_row (args := [tabD t, tabD far]) (by show 2 ≤ 1000; decide) (tya_cons (ty_var rfl) (tya_cons (ty_var rfl) tya_nil)) (ty_var rfl)) (tya_cons (ty_row (args := [wrong]) (by show 1 ≤ 1000; decide) (tya_cons (ty_var rfl) tya_nil) (ty_var rfl)) tya_nil)))) (by show 4 ≤ 1000000; decide)).ty (opt_catL (by show 8 ≤ 1000000; decide)))) ?_
  generalize rowsL t l bad wrong no (tabD far) = rows at rok
  show TyS W [some bx, some (dt K (tabD t)), some (dt K (intsD l)), some (dt K (.bool b)), some (dt K (.int (w : Nat))), some (dt K bad), some (dt K wrong), none, some (dt K no), some (dt K (tabD far)), some (lstT (rows.map fun r => dt K (rowD r))), none, none, none, none] _ _ _ _ _
  refine tys_seqE (W' := W) (Γ' := [some bx, none, none, none, none, none, none, none, none, none, none, none, none, none, none]) ?_ (TyS.never (tys_retW ty_bl))
  have hi : TyI W [some bx, some (dt K (tabD t)), some (dt K (intsD l)), some (dt K (.bool b)), some (dt K (.int (w : Nat))), some (dt K bad), some (dt K wrong), none, some (dt K no), some (dt K (tabD far)), some (lstT (rows.map fun r => dt K (rowD r))), none, none, none, none] (iList K (tVar 10)) (rows.map fun r => dt K (rowD r)) := tyi_lst (ty_var rfl)
  have less : Less [some bx, none, none, some (dt K (.bool b)), none, none, none, none, none, none, none, none, none, none, none] [some bx, some (dt K (tabD t)), some (dt K (intsD l)), some (dt K (.bool b)), some (dt K (.int (w : Nat))), some (dt K bad), some (dt K wrong), none, some (dt K no), some (dt K (tabD far)), some (lstT (rows.map fun r => dt K (rowD r))), none, none, none, none] := ⟨fun _ _ _ _ h => h, fun _ _ _ _ h => h, True.intro⟩
  refine tys_for (Wi := fun _ (_ : Bool) => W) (Γi := fun i (y : Bool) => [some bx, none, none, some (dt K (.bool y)), none, none, none, none, none, none, none, none, none, none, none]) b hi (fun _ _ => Wd.Like.refl W) (fun σ H g => ⟨g.1, EnvL.less less g.2⟩) (fun i T' y hT => ?_) (fun y σ H g => ⟨g.1, EnvL.less (by exact ⟨fun _ _ _ _ h => h, True.intro⟩) g.2⟩)
  rw [List.getElem?_map] at hT
  cases hp : rows[i]? with
  | none => rw [hp] at hT; cases hT
  | some r =>
    rw [hp] at hT
    cases hT
    obtain ⟨hcall, hst⟩ := rok r (List.mem_of_getElem? hp)
    obtain ⟨which, args, tag, g⟩ := r
    refine ⟨_, (tyg_unl (Ts := [dt K (.str which), dt K (.list args), dt K (.list [.str tag, g])]) (tygs_cons (tyg_name 11) (tygs_cons (tyg_name 12) (tygs_cons (tyg_name 13) tygs_nil)))).sub fun v H z => data_lstT (ds := [.str which, .list args, .list [.str tag, g]]) z, ?_⟩
    show TyS W [some bx, none, none, some (dt K (.bool y)), none, none, none, none, none, none, none, some (dt K (.str which)), some (dt K (.list args)), some (dt K (.list [.str tag, g])), none] _ _ _ _ _
    refine tys_seqE (tys_set (ty_call (which, args, y, tag, g) hcall (tya_cons (ty_var rfl) (tya_cons (ty_var rfl) (tya_cons (ty_var rfl) tya_nil))))) ?_
    refine tys_guard (φ := (· = false)) (tt_orB (a := false) (Tt.is (tt_test (ty_op (ty_op (ty_var rfl) ty_int (opt_ixL (i := 0) (d := .str tag) (ds := [.str tag, g]) (atI_nat (j := 0) rfl))) (ty_op (ty_var rfl) ty_int (opt_ixL (i := 0) (d := .str tag) (ds := [.str tag, g]) (atI_nat (j := 0) rfl))) opt_neS)) (by simp)) fun _ => Tt.is (tt_notB (tt_B (ty_call g hst (tya_cons (ty_op (ty_var rfl) ty_int (opt_ixL (i := 1) (d := g) (ds := [.str tag, g]) (atI_nat (j := 1) rfl))) (tya_cons (ty_op (ty_var rfl) ty_int (opt_ixL (i := 1) (d := g) (ds := [.str tag, g]) (atI_nat (j := 1) rfl))) tya_nil))))) rfl) (fun z => Bool.noConfusion z) fun _ => ?_
    refine TyS.imp (tys_set (ty_notV (ty_var rfl))) fun σ H q => ⟨!y, q.1, EnvL.less (by exact ⟨fun _ _ _ _ h => h, fun _ _ _ _ h => h, True.intro⟩) q.2⟩
end
section
variable {P : Program} {w : World} {K : PySem.W.Frag} {mg : Str → Option Value} {base : Heap}
/-! the plain law -/
def bl (B : Nat) (l : List Int) : Prop := ∀ v ∈ l, v.natAbs ≤ B
theorem sum_map_add {α : Type} (f g : α → Int) : ∀ l : List α, (l.map fun x => f x + g x).sum = (l.map f).sum + (l.map g).sum
  | [] => rfl
  | x :: l => by
    simp only [List.map_cons, List.sum_cons, sum_map_add f g l]
    omega
theorem sum_map_mul {α : Type} (c : Int) (f : α → Int) : ∀ l : List α, (l.map fun x => c * f x).sum = c * (l.map f).sum
  | [] => by simp
  | x :: l => by
    simp only [List.map_cons, List.sum_cons, sum_map_mul c f l]
    rw [Int.mul_add]
theorem sum_map_zero {α : Type} : ∀ l : List α, (l.map fun _ => (0 : Int)).sum = 0
  | [] => rfl
  | x :: l => by simp [sum_map_zero l]
/-- sums may be swapped -/
theorem sum_swap {α β : Type} (f : α → β → Int) (ys : List β) : ∀ xs : List α, (xs.map fun x => (ys.map fun y => f x y).sum).sum = (ys.map fun y => (xs.map fun x => f x y).sum).sum
  | [] => by simp only [List.map_nil, List.sum_nil]; exact (sum_map_zero ys).symm
  | x :: xs => by
    simp only [List.map_cons, List.sum_cons, sum_swap f ys xs]
    exact (sum_map_add (fun y => f x y) (fun y => (xs.map fun x => f x y).sum) ys).symm
/-- a dot by places -/
theorem dot_range {n : Nat} : ∀ {a b : List Int}, a.length = n → b.length = n → dotI a b = ((List.range n).map fun i => a.getD i 0 * b.getD i 0).sum := by
  intro a b ha hb
  have e : (a.zip b).map (fun p => p.1 * p.2) = (List.range n).map fun i => a.getD i 0 * b.getD i 0 := by
    apply List.ext_getElem
    · simp [ha, hb]
    · intro i h1 h2
      have hi : i < n := by simpa using h2
      simp only [List.getElem_map, List.getElem_zip, List.getElem_range, List.getD_eq_getElem?_getD, List.getElem?_eq_getElem (show i < a.length by omega), List.getElem?_eq_getElem (show i < b.length by omega), Option.getD_some]
  rw [dotI, e]
theorem list_range (l : List Int) : l = (List.range l.length).map fun i => l.getD i 0 := by
  apply List.ext_getElem
  · simp
  · intro i h1 h2
    simp [List.getD_eq_getElem?_getD, List.getElem?_eq_getElem h1]
theorem map_getD' {α : Type} {l : List α} {i : Nat} (h : i < l.length) (f : α → Int) (d : α) : (l.map f).getD i 0 = f (l.getD i d) := by
  simp [List.getD_eq_getElem?_getD, List.getElem?_eq_getElem h]
/-- the sum that is mixed -/
theorem mix_is {n : Nat} : ∀ (ps : List (Int × List Int)) (f : List Int), f.length = n → (∀ p ∈ ps, p.2.length = n) → ps.foldl mixStep f = (List.range n).map fun j => f.getD j 0 + (ps.map fun p => p.1 * p.2.getD j 0).sum
  | [], f, hf, _ => by
    simp only [List.foldl_nil, List.map_nil, List.sum_nil, Int.add_zero]
    rw [← hf]; exact list_range f
  | p :: ps, f, hf, hp => by
    have hp2 := hp p (List.mem_cons_self ..)
    have hs : mixStep f p = (List.range n).map fun j => f.getD j 0 + p.1 * p.2.getD j 0 := by
      have e : (f.zip p.2).map (fun q => q.1 + p.1 * q.2) = (List.range n).map fun j => f.getD j 0 + p.1 * p.2.getD j 0 := by
        apply List.ext_getElem
        · simp [hf, hp2]
        · intro i h1 h2
          have hi : i < n := by simpa using h2
          simp only [List.getElem_map, List.getElem_zip, List.getElem_range, List.getD_eq_getElem?_getD, List.getElem?_eq_getElem (show i < f.length by omega), List.getElem?_eq_getElem (show i < p.2.length by omega), Option.getD_some]
      unfold mixStep
      by_cases c : p.1 = 0
      · rw [if_neg (by simpa using c), c]
        simp only [Int.zero_mul, Int.add_zero]
        rw [← hf]; exact list_range f
      · rw [if_pos c, addI, e]
    rw [List.foldl_cons, mix_is ps (mixStep f p) (by rw [hs]; simp) fun q hq => hp q (List.mem_cons_of_mem _ hq), hs]
    refine List.map_congr_left fun j hj => ?_
    rw [rng_getD (List.mem_range.mp hj), List.map_cons, List.sum_cons]
    omega
theorem zip_map_r {α β γ : Type} (f : β → γ) : ∀ (a : List α) (b : List β), a.zip (b.map f) = (a.zip b).map fun p => (p.1, f p.2)
  | [], b => by simp
  | _ :: _, [] => by simp
  | x :: a, y :: b => by simp [zip_map_r f a b]
theorem mix_mul {r : List Int} {b : List (List Int)} {n : Nat} (hb : ∀ l ∈ b, l.length = n) : mixI r b n = (turnI b n).map fun c => dotI r c := by
  rw [mixI, mix_is (n := n) _ _ (by simp) fun p hp => hb p.2 (List.of_mem_zip hp).2, turnI, List.map_map]
  refine List.map_congr_left fun j hj => ?_
  have hj' : j < n := List.mem_range.mp hj
  show (List.replicate n (0 : Int)).getD j 0 + _ = dotI r (b.map fun r => r.getD j 0)
  rw [dotI, zip_map_r, List.map_map, List.getD_eq_getElem?_getD, List.getElem?_replicate, if_pos hj']
  simp only [Option.getD_some, Int.zero_add]
  rfl
theorem times_mul {a b : List (List Int)} {n : Nat} (hb : ∀ l ∈ b, l.length = n) : timesI a b n = mulI a b n := by
  unfold timesI mulI
  exact List.map_congr_left fun r _ => mix_mul hb
theorem turn_len (t : List (List Int)) (n : Nat) : (turnI t n).length = n := by rw [turnI, List.length_map, List.length_range]
theorem turn_rows {t : List (List Int)} {n : Nat} : ∀ r ∈ turnI t n, r.length = t.length := fun r hr => by
  obtain ⟨i, _, rfl⟩ := List.mem_map.mp hr
  rw [List.length_map]
/-- turned twice -/
theorem turn_turn {t : List (List Int)} {n : Nat} (h : ∀ r ∈ t, r.length = n) : turnI (turnI t n) t.length = t := by
  apply List.ext_getElem
  · rw [turn_len]
  · intro i h1 h2
    have hr := h t[i] (List.getElem_mem h2)
    simp only [turnI, List.getElem_map, List.getElem_range, List.map_map]
    apply List.ext_getElem
    · simp [hr]
    · intro j h3 h4
      simp [List.getD_eq_getElem?_getD, List.getElem?_eq_getElem h2, List.getElem?_eq_getElem h4]
/-- a product of tables on a line -/
theorem apply_mul {a b : List (List Int)} {s : List Int} {n : Nat} (hb : ∀ l ∈ b, l.length = n) (ha : ∀ r ∈ a, r.length = b.length) (hs : s.length = n) : applyI a (applyI b s) = applyI (mulI a b n) s := by
  unfold applyI mulI
  rw [List.map_map]
  refine List.map_congr_left fun r hr => ?_
  have hr' := ha r hr
  show dotI r (b.map fun q => dotI q s) = dotI ((turnI b n).map fun c => dotI r c) s
  rw [dot_range (n := b.length) hr' (by rw [List.length_map]), dot_range (n := n) (by rw [List.length_map, turn_len]) hs]
  have e1 : ∀ i ∈ List.range b.length, r.getD i 0 * (b.map fun q => dotI q s).getD i 0 = ((List.range n).map fun j => r.getD i 0 * ((b.getD i []).getD j 0 * s.getD j 0)).sum := fun i hi => by
    have hi' : i < b.length := List.mem_range.mp hi
    have hm : b.getD i [] ∈ b := by rw [List.getD_eq_getElem?_getD, List.getElem?_eq_getElem hi']; exact List.getElem_mem hi'
    rw [map_getD' hi' _ [], dot_range (n := n) (hb _ hm) hs, sum_map_mul]
  rw [List.map_congr_left e1, sum_swap]
  congr 1
  refine List.map_congr_left fun j hj => ?_
  have hj' : j < n := List.mem_range.mp hj
  have e2 : ((turnI b n).map fun c => dotI r c).getD j 0 = dotI r (b.map fun q => q.getD j 0) := by
    rw [turnI, List.map_map]
    exact rng_getD hj' _ 0
  rw [e2, dot_range (n := b.length) hr' (by rw [List.length_map])]
  have e3 : ∀ i ∈ List.range b.length, r.getD i 0 * ((b.getD i []).getD j 0 * s.getD j 0) = s.getD j 0 * (r.getD i 0 * (b.map fun q => q.getD j 0).getD i 0) := fun i hi => by
    rw [map_getD' (List.mem_range.mp hi) _ []]
    rw [← Int.mul_assoc, Int.mul_comm]
  rw [List.map_congr_left e3, sum_map_mul, Int.mul_comm]
/-! bounds -/
theorem sum_bound {B : Nat} : ∀ l : List Int, (∀ v ∈ l, v.natAbs ≤ B) → l.sum.natAbs ≤ l.length * B
  | [], _ => by simp
  | x :: l, h => by
    have h1 := h x (List.mem_cons_self ..)
    have h2 := sum_bound l fun v hv => h v (List.mem_cons_of_mem _ hv)
    rw [List.sum_cons, List.length_cons, Nat.succ_mul]
    have := Int.natAbs_add_le x l.sum
    omega
theorem dot_bound {A B : Nat} {a b : List Int} (ha : bl A a) (hb : bl B b) : (dotI a b).natAbs ≤ a.length * (A * B) := by
  have h : ((a.zip b).map fun p : Int × Int => p.1 * p.2).sum.natAbs ≤ ((a.zip b).map fun p : Int × Int => p.1 * p.2).length * (A * B) := sum_bound _ fun v hv => by
    obtain ⟨p, hp, rfl⟩ := List.mem_map.mp hv
    rw [Int.natAbs_mul]
    exact Nat.mul_le_mul (ha p.1 (List.of_mem_zip hp).1) (hb p.2 (List.of_mem_zip hp).2)
  refine Nat.le_trans h (Nat.mul_le_mul_right _ ?_)
  rw [List.length_map, List.length_zip]
  omega
theorem sm_of {B : Nat} {v : Int} (h : v.natAbs ≤ B) (hB : B < 2 ^ 4096) : sm v := Nat.lt_of_le_of_lt h hB
theorem sml_of {B : Nat} {l : List Int} (hl : l.length ≤ 1000) (h : bl B l) (hB : B < 2 ^ 4096) : sml l := ⟨hl, fun v hv => sm_of (h v hv) hB⟩
theorem ent_bl {l : List Int} {n : Nat} (h : LinOk n l) : bl (10 ^ 39) l := h.2
theorem ten_sm : (10 : Nat) ^ 39 < 2 ^ 4096 := by decide +kernel
theorem lin_sml {l : List Int} {n : Nat} (h : LinOk n l) (hn : n ≤ 1000) : sml l := sml_of (by rw [h.1]; exact hn) (ent_bl h) ten_sm
theorem tab_smt {m : List (List Int)} {h n : Nat} (t : TabOk h n m) (h1 : h ≤ 1000) (h2 : n ≤ 1000) : smt m := ⟨by rw [t.1]; exact h1, fun l hl => lin_sml (t.2 l hl) h2⟩
def givL (m1 m2 : List (List Int)) (l : List Int) (w d : Nat) : List PyData :=
  [.list [.str "told", tabD (mulI m1 m2 d)], .list [.str "told", intsD (applyI m2 l)], .list [.str "told", tabD (turnI m1 w)], .list [.str "told", tabD m1]]
theorem sm_two {n : Nat} {x : PyData} (h : smOk n x) : smOk (n + 2) (.list [.str "told", x]) → True := fun _ => trivial
theorem smOk_told {n : Nat} {x : PyData} (h : smOk (n + 1) x) : smOk (n + 2) (.list [.str "told", x]) := ⟨by show 2 ≤ 1000; decide, fun e he => by
  have he' : e = .str "told" ∨ e = x := by simpa using he
  rcases he' with rfl | rfl
  · show ("told" : Str).length ≤ 1000; decide
  · exact h⟩
theorem smOk_ints {n : Nat} {l : List Int} (h : l.length ≤ 1000) : smOk (n + 2) (intsD l) := ⟨by rw [List.length_map]; exact h, fun e he => by
  obtain ⟨v, _, rfl⟩ := List.mem_map.mp he
  exact trivial⟩
theorem smOk_tab {n : Nat} {m : List (List Int)} (h : m.length ≤ 1000) (h2 : ∀ r ∈ m, r.length ≤ 1000) : smOk (n + 3) (tabD m) := ⟨by rw [List.length_map]; exact h, fun e he => by
  obtain ⟨r, hr, rfl⟩ := List.mem_map.mp he
  exact smOk_ints (h2 r hr)⟩
theorem ty_told {W : Wd} {Γ : Gam} {K : PySem.W.Frag} {te : TE} {x : PyData} (h : Ty W Γ te (dt K x)) : Ty W Γ (tLst (tCons (tC (.str "told")) (tCons te tNil))) (dt K (.list [.str "told", x])) := ty_lstD (ds := [.str "told", x]) (tya_cons ty_str (tya_cons h tya_nil)) (by show 2 ≤ 1000000; decide)
theorem line_of {q : List Int} {n : Nat} (h : q.length = n) : isLineOfD (intsD q) (n : Nat) = true := by
  show (decide (((q.map PyData.int).length : Int) = (n : Nat)) && (q.map PyData.int).all isWholeD) = true
  rw [all_whole, List.length_map, h, Bool.and_true]
  exact decide_eq_true rfl
theorem size_ints {q : List Int} : sizeD (intsD q) = q.length := by show (q.map PyData.int).length = _; rw [List.length_map]
theorem ty_callX {W : Wd} {Γ : Gam} {tl : TA} {α : Type} {C : α → Prop} {A : α → List Typ} {R : α → Typ} {E : XK} {As : List Typ} {T : Typ} (h : TyA W Γ tl As)
    (k : ∀ vs H, TysV W.M W.B As vs H → ∃ x, C x ∧ TysV W.M W.B (A x) vs H ∧ ∀ v H', (R x).p W.M W.B v H' → T.p W.M W.B v H') : Ty W Γ (tCall (spT C A R) [] E tl) T := fun σ H c g Q q =>
  h σ H c g _ fun vs H1 e1 hv => by
    obtain ⟨x, hC, hA, hR⟩ := k vs H1 hv
    exact ⟨W.M, W.B, x, W.sub, (c.up e1).box, (c.up e1).al, hC, by rw [List.append_nil]; exact hA, fun v H2 e2 h2 => q v H2 (e1.trans e2) (hR v H2 h2)⟩
theorem turn_bl {t : List (List Int)} {n B : Nat} (h : ∀ r ∈ t, bl B r) : ∀ c ∈ turnI t n, bl B c := fun c hc v hv => by
  obtain ⟨i, _, rfl⟩ := List.mem_map.mp hc
  obtain ⟨r, hr, rfl⟩ := List.mem_map.mp hv
  rw [List.getD_eq_getElem?_getD]
  cases e : r[i]? with
  | none => exact Nat.zero_le _
  | some z => exact h r hr z (List.mem_of_getElem? e)
theorem mul_smt {a b : List (List Int)} {n w : Nat} (ha : a.length ≤ 1000) (hn : n ≤ 1000) (h1 : ∀ r ∈ a, bl (10 ^ 39) r ∧ r.length ≤ 24) (h2 : ∀ r ∈ b, bl (10 ^ 39) r) : smt (mulI a b n) := by
  refine ⟨by rw [mulI, List.length_map]; exact ha, fun q hq => ?_⟩
  obtain ⟨r, hr, rfl⟩ := List.mem_map.mp hq
  refine sml_of (B := 24 * (10 ^ 39 * 10 ^ 39)) (by rw [List.length_map, turn_len]; exact hn) (fun v hv => ?_) (by decide +kernel)
  obtain ⟨c, hc, rfl⟩ := List.mem_map.mp hv
  exact Nat.le_trans (dot_bound (h1 r hr).1 (turn_bl h2 c hc)) (Nat.mul_le_mul_right _ (h1 r hr).2)
theorem app_bl {m : List (List Int)} {s : List Int} {A B L : Nat} (h1 : ∀ r ∈ m, bl A r ∧ r.length ≤ L) (h2 : bl B s) : bl (L * (A * B)) (applyI m s) := fun v hv => by
  obtain ⟨r, hr, rfl⟩ := List.mem_map.mp hv
  exact Nat.le_trans (dot_bound (h1 r hr).1 h2) (Nat.mul_le_mul_right _ (h1 r hr).2)
theorem tysv4 {M B : Addr → Prop} {A1 A2 A3 A4 : Typ} {us : List V} {H : Hp} (h : TysV M B [A1, A2, A3, A4] us H) : ∃ a b c d, us = [a, b, c, d] ∧ A1.p M B a H ∧ A2.p M B b H ∧ A3.p M B c H ∧ A4.p M B d H := by
  match us, h with
  | [a, b, c, d], h => exact ⟨a, b, c, d, rfl, h.1, h.2.1, h.2.2.1, h.2.2.2.1⟩
theorem ty_lawcall {W : Wd} {Γ : Gam} {K : PySem.W.Frag} {tl : TA} {which tag : Str} {a : List PyData} {b : Bool} {val : PyData} (h : CallOk which a tag val) (ha : TyA W Γ tl [dt K (.str which), dt K (.list a), dt K (.bool b)]) : Ty W Γ (tCall (sp_law_call K) [] E0 tl) (dt K (.list [.str tag, val])) := by
  unfold sp_law_call
  exact ty_call (C := fun x : Str × List PyData × Bool × Str × PyData => CallOk x.1 x.2.1 x.2.2.2.1 x.2.2.2.2) (which, a, b, tag, val) h ha
def sp_law_scene_right (K : PySem.W.Frag) : Sp := spT (fun _ : Bool => True) (fun b => [bx, dt K (.bool b)]) (fun _ => dt K (.bool true))
theorem ok_law_scene_right (T : Tx P K mg) : FnOk P w K mg base (L2.CX P w) 14 T.a_law_scene_right T.f_law_scene_right ["box", "named"] (sp_law_scene_right K) := by
  have G_law_columns := ok_law_columns (w := w) (base := base) T
  have G_law_take := ok_law_take (w := w) (base := base) T
  have G_law_table := ok_law_table (w := w) (base := base) T
  have G_law_line := ok_law_line (w := w) (base := base) T
  have G_law_call := ok_law_call (w := w) (base := base) T
  have G_law_same := ok_law_same (w := w) (base := base) T
  have G_law_applied := ok_law_applied (w := w) (base := base) T
  have G_law_units_right := ok_law_units_right (w := w) (base := base) T
  have G_law_refused_right := ok_law_refused_right (w := w) (base := base) T
  have G_law_times := ok_law_times (w := w) (base := base) T
  have G_law_dot := ok_law_dot (w := w) (base := base) T
  have nd := sc_law_scene_right.nd
  refine fn_ty T.F_law_scene_right sc_law_scene_right (fun x _ => rfl) fun cdv Ar outer s H E hr => ⟨_, (pss_cons (pset 2 nd (pe_cmpR (k_eq (K := K) rfl hr.units) (pcall G_law_take (hr.mono (by decide)) T.D_law_take (pa_cons (pv 0) (pa_cons pe_int pa_nil))) pe_int (nomark _)))
    (pss_cons (ps_asg (pe_ifExp (pt_val (pv 2)) (pe_lst (pa_cons pe_int (pa_cons pe_int (pa_cons pe_int pa_nil)))) (pe_lst (pa_cons (pe_op (k_add (K := K) rfl) pe_int (pcall G_law_take (hr.mono (by decide)) T.D_law_take (pa_cons (pv 0) (pa_cons pe_int pa_nil)))) (pa_cons (pe_op (k_add (K := K) rfl) pe_int (pcall G_law_take (hr.mono (by decide)) T.D_law_take (pa_cons (pv 0) (pa_cons pe_int pa_nil)))) (pa_cons (pe_op (k_add (K := K) rfl) pe_int (pcall G_law_take (hr.mono (by decide)) T.D_law_take (pa_cons (pv 0) (pa_cons pe_int pa_nil)))) pa_nil))))) (k_gunl (K := K) (n := 3) rfl (pgs_cons (pgn 3 nd) (pgs_cons (pgn 4 nd) (pgs_cons (pgn 5 nd) pgs_nil)))))
    (pss_cons (ps_par3 (i := 6) (j := 7) (l := 8) rfl nd rfl rfl rfl (by decide) (by decide) (by decide) rfl rfl rfl (pa_cons (pcall G_law_table (hr.mono (by decide)) T.D_law_table (pa_cons (pv 0) (pa_cons (pv 3) (pa_cons (pv 4) pa_nil)))) (pa_cons (pcall G_law_table (hr.mono (by decide)) T.D_law_table (pa_cons (pv 0) (pa_cons (pv 4) (pa_cons (pv 5) pa_nil)))) (pa_cons (pcall G_law_line (hr.mono (by decide)) T.D_law_line (pa_cons (pv 0) (pa_cons (pv 5) pa_nil))) pa_nil))) (by rfl))
    (pss_cons (pset 9 nd (pcall G_law_columns (hr.mono (by decide)) T.D_law_columns (pa_cons (pv 6) pa_nil)))
    (pss_cons (pset 10 nd (pe_lst (pa_cons (pcall G_law_call (hr.mono (by decide)) T.D_law_call (pa_cons pe_str (pa_cons (pe_lst (pa_cons (pv 6) (pa_cons (pv 7) pa_nil))) (pa_cons (pv 1) pa_nil)))) (pa_cons (pcall G_law_call (hr.mono (by decide)) T.D_law_call (pa_cons pe_str (pa_cons (pe_lst (pa_cons (pv 7) (pa_cons (pv 8) pa_nil))) (pa_cons (pe_not (pv 1)) pa_nil)))) (pa_cons (pcall G_law_call (hr.mono (by decide)) T.D_law_call (pa_cons pe_str (pa_cons (pe_lst (pa_cons (pv 6) pa_nil)) (pa_cons (pv 1) pa_nil)))) (pa_cons (pcall G_law_call (hr.mono (by decide)) T.D_law_call (pa_cons pe_str (pa_cons (pe_lst (pa_cons (pv 9) pa_nil)) (pa_cons (pe_not (pv 1)) pa_nil)))) pa_nil))))))
    (pss_cons (ps_if (pt_not (pt_val (pcall G_law_same (hr.mono (by decide)) T.D_law_same (pa_cons (pv 10) (pa_cons (pe_lst (pa_cons (pe_lst (pa_cons pe_str (pa_cons (pcall G_law_times (hr.mono (by decide)) T.D_law_times (pa_cons (pv 6) (pa_cons (pv 7) pa_nil))) pa_nil))) (pa_cons (pe_lst (pa_cons pe_str (pa_cons (pcall G_law_applied (hr.mono (by decide)) T.D_law_applied (pa_cons (pv 7) (pa_cons (pv 8) pa_nil))) pa_nil))) (pa_cons (pe_lst (pa_cons pe_str (pa_cons (pv 9) pa_nil))) (pa_cons (pe_lst (pa_cons pe_str (pa_cons (pv 6) pa_nil))) pa_nil))))) pa_nil))))) (pss_one (ps_ret pe_bl)) pss_nil)
    (pss_cons (pset 11 nd (k_tuple (K := K) rfl T.m_tuple (pa_cons (plc [("k", 12)] nd (pi_range1 rfl T.m_range (pa_cons (pv 5) pa_nil)) (fun _ _ _ _ _ => (pgn 12 nd)) (fun _ _ _ _ _ => pts_nil) (fun _ _ _ _ _ => (pe_op op_sub (pcall G_law_take (hr.mono (by decide)) T.D_law_take (pa_cons (pv 0) (pa_cons pe_int pa_nil))) pe_int)) (by kernel_rfl)) pa_nil)))
    (pss_cons (ps_par (i := 13) (j := 14) rfl nd rfl rfl (by decide) rfl rfl (pa_cons (pcall G_law_applied (hr.mono (by decide)) T.D_law_applied (pa_cons (pv 7) (pa_cons (pv 11) pa_nil))) (pa_cons (pcall G_law_applied (hr.mono (by decide)) T.D_law_applied (pa_cons (pcall G_law_times (hr.mono (by decide)) T.D_law_times (pa_cons (pv 6) (pa_cons (pv 7) pa_nil))) (pa_cons (pv 11) pa_nil))) pa_nil)) (by rfl))
    (pss_cons (ps_if (PW.pt (pw_and (pt_cmpR op_lt (k_max1 (K := K) rfl T.m_max (pa_cons (plc [("item", 15)] nd (k_itup (K := K) rfl (pv 13)) (fun _ _ _ _ _ => (pgn 15 nd)) (fun _ _ _ _ _ => pts_nil) (fun _ _ _ _ _ => (bi_abs T.m_abs (pa_cons (pv 15) pa_nil))) (by kernel_rfl)) pa_nil)) (pe_op op_pow pe_int pe_int) (nomark _)) (pw_and1 (pt_not (pt_val (pcall G_law_same (hr.mono (by decide)) T.D_law_same (pa_cons (pcall G_law_call (hr.mono (by decide)) T.D_law_call (pa_cons pe_str (pa_cons (pe_lst (pa_cons (pv 6) (pa_cons (pv 13) pa_nil))) (pa_cons (pv 1) pa_nil)))) (pa_cons (pe_lst (pa_cons pe_str (pa_cons (pv 14) pa_nil))) pa_nil)))))))) (pss_one (ps_ret pe_bl)) pss_nil)
    (pss_cons (pset 16 nd (pcall G_law_take (hr.mono (by decide)) T.D_law_take (pa_cons (pv 0) (pa_cons pe_int pa_nil))))
    (pss_cons (ps_par (i := 17) (j := 18) rfl nd rfl rfl (by decide) rfl rfl (pa_cons (pcall G_law_line (hr.mono (by decide)) T.D_law_line (pa_cons (pv 0) (pa_cons (pv 16) pa_nil))) (pa_cons (pcall G_law_line (hr.mono (by decide)) T.D_law_line (pa_cons (pv 0) (pa_cons (pv 16) pa_nil))) pa_nil)) (by rfl))
    (pss_cons (ps_if (pt_not (pt_val (pcall G_law_same (hr.mono (by decide)) T.D_law_same (pa_cons (pcall G_law_call (hr.mono (by decide)) T.D_law_call (pa_cons pe_str (pa_cons (pe_lst (pa_cons (pv 17) (pa_cons (pv 18) pa_nil))) (pa_cons (pv 1) pa_nil)))) (pa_cons (pe_lst (pa_cons pe_str (pa_cons (pcall G_law_dot (hr.mono (by decide)) T.D_law_dot (pa_cons (pv 17) (pa_cons (pv 18) pa_nil))) pa_nil))) pa_nil))))) (pss_one (ps_ret pe_bl)) pss_nil)
    (pss_one (ps_ret (pe_and (pcall G_law_units_right (hr.mono (by decide)) T.D_law_units_right (pa_cons (pv 0) (pa_cons (pv 1) pa_nil))) (pe_one (pcall G_law_refused_right (hr.mono (by decide)) T.D_law_refused_right (pa_cons (pv 0) (pa_cons (pv 6) (pa_cons (pcall G_law_line (hr.mono (by decide)) T.D_law_line (pa_cons (pv 0) (pa_cons (pv 4) pa_nil))) (pa_cons (pv 1) pa_nil))))))))))))))))))))), fun W x hC => ?_⟩
  have dig : ∀ (W' : Wd) (Γ : Gam) (n : Nat) (te : TE), Γ[0]? = some (some bx) → 0 < n → n ≤ 1000000 → Ty W' Γ te (dt K (.int (n : Nat))) → Ty W' Γ (tCall (sp_law_take K) [] E0 (tCons (tVar 0) (tCons te tNil))) (digT K n) := fun W' Γ n te h h0 h1 h2 => ty_call n ⟨h0, h1⟩ (tya_cons (ty_var h) (tya_cons h2 tya_nil))
  have man : ∀ (Γ : Gam) (te : TE) (k : Nat), 1 ≤ k → k ≤ 24 → Ty W Γ te (dt K (.int (k : Nat))) → Ty W Γ te (manT K) := fun Γ te k h1 h2 h => h.sub fun v H _ z => ⟨k, ⟨h1, h2⟩, z⟩
  have man4 : ∀ (Γ : Gam), Γ[0]? = some (some bx) → Ty W Γ (tOp (rAddA K) (tC (.int 1)) (tCall (sp_law_take K) [] E0 (tCons (tVar 0) (tCons (tC (.int 4)) tNil)))) (manT K) := fun Γ h => ty_opY (A := dt K (.int 1)) (C := fun k : Nat => gd (k < 4) (dt K (.int (k : Nat)))) (P := fun n : Nat => gd (1 ≤ n ∧ n ≤ 24) (dt K (.int (n : Nat)))) ty_int (dig _ _ 4 _ h (by decide) (by decide) (Ty.is ty_int rfl)) fun k => ⟨k + 1, OpT.gdr fun hk => fun u v H c hu hv Q q => opt_add u v H c hu hv Q fun w H1 e z => q w H1 e ⟨⟨by omega, by omega⟩, by
    have e2 : ((k + 1 : Nat) : Int) = 1 + (k : Int) := by omega
    rw [e2]; exact z⟩⟩
  refine tys_seqE (tys_set (T := exT fun g : Bool => dt K (.bool g)) (ty_opX (α := Nat) (A := fun k => gd (k < 10) (dt K (.int (k : Nat)))) (P := fun g : Bool => dt K (.bool g)) (dig _ _ 10 _ rfl (by decide) (by decide) (Ty.is ty_int rfl)) (ty_int (n := 0)) fun k => ⟨decide ((k : Int) = 0), OpT.gdl fun _ => opt_eqI⟩)) ?_
  refine TyS.openX (n := 2) rfl fun gr => ?_
  refine tys_seqE (tys_asg (T := lstT [manT K, manT K, manT K]) (ty_if (φ := (· = gr)) (tt_B (ty_var rfl)) (fun _ => (tyl_lst (tya_cons (man _ _ 24 (by decide) (by decide) ty_int) (tya_cons (man _ _ 24 (by decide) (by decide) ty_int) (tya_cons (man _ _ 2 (by decide) (by decide) ty_int) tya_nil))) (by show 3 ≤ 1000000; decide)).ty) (fun _ => (tyl_lst (tya_cons (man4 _ rfl) (tya_cons (man4 _ rfl) (tya_cons (man4 _ rfl) tya_nil))) (by show 3 ≤ 1000000; decide)).ty)) (tyg_unl (tygs_cons (tyg_name 3) (tygs_cons (tyg_name 4) (tygs_cons (tyg_name 5) tygs_nil))))) ?_
  refine TyS.openX (n := 3) rfl fun h => TyS.openG (n := 3) rfl fun hh => TyS.openX (n := 4) rfl fun w => TyS.openG (n := 4) rfl fun hw => TyS.openX (n := 5) rfl fun d => TyS.openG (n := 5) rfl fun hd => ?_
  obtain ⟨h1, h2⟩ := hh
  obtain ⟨w1, w2⟩ := hw
  obtain ⟨d1, d2⟩ := hd
  show TyS W [some bx, some (dt K (.bool x)), some (dt K (.bool gr)), some (dt K (.int (h : Nat))), some (dt K (.int (w : Nat))), some (dt K (.int (d : Nat))), none, none, none, none, none, none, none, none, none, none, none, none, none] _ _ _ _ _
  refine tys_seqE (tys_par3 (tya_cons (ty_call (h, w) ⟨by show h ≤ 1000; omega, by show w ≤ 1000; omega⟩ (tya_cons (ty_var rfl) (tya_cons (ty_var rfl) (tya_cons (ty_var rfl) tya_nil)))) (tya_cons (ty_call (w, d) ⟨by show w ≤ 1000; omega, by show d ≤ 1000; omega⟩ (tya_cons (ty_var rfl) (tya_cons (ty_var rfl) (tya_cons (ty_var rfl) tya_nil)))) (tya_cons (ty_call d (show d ≤ 1000 by omega) (tya_cons (ty_var rfl) (tya_cons (ty_var rfl) tya_nil))) tya_nil)))) ?_
  refine TyS.openX (n := 6) rfl fun m1 => TyS.openG (n := 6) rfl fun t1 => TyS.openX (n := 7) rfl fun m2 => TyS.openG (n := 7) rfl fun t2 => TyS.openX (n := 8) rfl fun l => TyS.openG (n := 8) rfl fun tl => ?_
  show TyS W [some bx, some (dt K (.bool x)), some (dt K (.bool gr)), some (dt K (.int (h : Nat))), some (dt K (.int (w : Nat))), some (dt K (.int (d : Nat))), some (dt K (tabD m1)), some (dt K (tabD m2)), some (dt K (intsD l)), none, none, none, none, none, none, none, none, none, none] _ _ _ _ _
  have t1 : TabOk h w m1 := t1
  have t2 : TabOk w d m2 := t2
  have tl : LinOk d l := tl
  have r1 : ∀ r ∈ m1, r.length = w := fun r hr => (t1.2 r hr).1
  have r2 : ∀ r ∈ m2, r.length = d := fun r hr => (t2.2 r hr).1
  have n1 : m1 ≠ [] := fun e => by have z := t1.1; rw [e] at z; simp at z; omega
  have n2 : m2 ≠ [] := fun e => by have z := t2.1; rw [e] at z; simp at z; omega
  have s1 : smt m1 := tab_smt t1 (by omega) (by omega)
  have s2 : smt m2 := tab_smt t2 (by omega) (by omega)
  have sl : sml l := lin_sml tl (by omega)
  have T1 : ∀ q : List Int, q.length = w → TL m1 q w := fun q hq => ⟨n1, by rw [t1.1]; exact h2, r1, w1, w2, hq⟩
  have T2 : TL m2 l d := ⟨n2, by rw [t2.1]; exact w2, r2, d1, d2, tl.1⟩
  have T1' := T1 (List.replicate w 0) (by simp)
  refine tys_seqE (tys_set (ty_call (m1, w) ⟨n1, s1.1, by show w ≤ 1000; omega, r1⟩ (tya_cons (ty_var rfl) tya_nil))) ?_
  show TyS W [some bx, some (dt K (.bool x)), some (dt K (.bool gr)), some (dt K (.int (h : Nat))), some (dt K (.int (w : Nat))), some (dt K (.int (d : Nat))), some (dt K (tabD m1)), some (dt K (tabD m2)), some (dt K (intsD l)), some (dt K (tabD (turnI m1 w))), none, none, none, none, none, none, none, none, none] _ _ _ _ _
  have e12 : timesI m1 m2 d = mulI m1 m2 d := times_mul r2
  have w1' : widD (tabD m1) = w := T1'.wid
  have T3 : TL (turnI m1 w) (List.replicate h 0) h := ⟨fun e => by have z := turn_len m1 w; rw [e] at z; simp at z; omega, by rw [turn_len]; exact w2, fun r hr => by rw [turn_rows r hr, t1.1], h1, h2, by simp⟩
  refine tys_seqE (tys_set (T := dt K (.list (givL m1 m2 l w d))) (ty_lstD (ds := givL m1 m2 l w d) (tya_cons ?g1 (tya_cons ?g2 (tya_cons ?g3 (tya_cons ?g4 tya_nil)))) (by show 4 ≤ 1000000; decide))) ?_
  case g1 =>
    have hc : CallOk "times" [tabD m1, tabD m2] "told" (tabD (mulI m1 m2 d)) := by
      rw [← e12]
      exact CallOk.tim (tabD m1) (tabD m2) _ ⟨T1'.okt, T2.okt, fun _ _ _ => ⟨m1, m2, d, rfl, rfl, T2.wid, s1, ⟨s2.1, by omega, fun r hr => by rw [r2 r hr]; omega⟩, fun r hr p hp v hv => ⟨(s1.2 r hr).2 _ (List.of_mem_zip hp).1, (s2.2 _ (List.of_mem_zip hp).2).2 v hv⟩, rfl⟩⟩ T1'.tab ⟨T2.tab, by rw [w1']; show (m2.map intsD).length = w; rw [List.length_map, t2.1]⟩
    exact ty_lawcall hc <| tya_cons ty_str (tya_cons (ty_lstD (ds := [tabD m1, tabD m2]) (tya_cons (ty_var rfl) (tya_cons (ty_var rfl) tya_nil)) (by show 2 ≤ 1000000; decide)) (tya_cons (ty_var rfl) tya_nil))
  case g2 =>
    have hc : CallOk "applied" [tabD m2, intsD l] "told" (intsD (applyI m2 l)) := CallOk.app (tabD m2) (intsD l) (applyI m2 l) ⟨T2.okt, by show sizeD (intsD l) ≤ 1000; rw [size_ints]; exact sl.1, fun _ _ => ⟨m2, l, rfl, rfl, s2, sl, rfl⟩⟩ T2.tab (by rw [T2.wid]; exact line_of tl.1)
    exact ty_lawcall hc <| tya_cons ty_str (tya_cons (ty_lstD (ds := [tabD m2, intsD l]) (tya_cons (ty_var rfl) (tya_cons (ty_var rfl) tya_nil)) (by show 2 ≤ 1000000; decide)) (tya_cons (ty_notV (ty_var rfl)) tya_nil))
  case g3 =>
    have hc : CallOk "turned" [tabD m1] "told" (tabD (turnI m1 w)) := CallOk.tur (tabD m1) (turnI m1 w) ⟨T1'.okt, fun _ => ⟨m1, rfl, s1.1, by show widD (tabD m1) ≤ 1000; rw [w1']; omega, by show ∀ r ∈ m1, r.length = widD (tabD m1); rw [w1']; exact r1, by show _ = turnI m1 (widD (tabD m1)); rw [w1']⟩⟩ T1'.tab
    exact ty_lawcall hc <| tya_cons ty_str (tya_cons (ty_oneL (ty_var rfl)) (tya_cons (ty_var rfl) tya_nil))
  case g4 =>
    have w3 : widD (tabD (turnI m1 w)) = h := T3.wid
    have hc : CallOk "turned" [tabD (turnI m1 w)] "told" (tabD m1) := CallOk.tur (tabD (turnI m1 w)) m1 ⟨T3.okt, fun _ => ⟨turnI m1 w, rfl, by rw [turn_len]; omega, by show widD (tabD (turnI m1 w)) ≤ 1000; rw [w3]; omega, by show ∀ r ∈ turnI m1 w, r.length = widD (tabD (turnI m1 w)); rw [w3]; exact T3.h2, by
      show m1 = turnI (turnI m1 w) (widD (tabD (turnI m1 w)))
      rw [w3, ← t1.1]
      exact (turn_turn r1).symm⟩⟩ T3.tab
    exact ty_lawcall hc <| tya_cons ty_str (tya_cons (ty_oneL (ty_var rfl)) (tya_cons (ty_notV (ty_var rfl)) tya_nil))
  show TyS W [some bx, some (dt K (.bool x)), some (dt K (.bool gr)), some (dt K (.int (h : Nat))), some (dt K (.int (w : Nat))), some (dt K (.int (d : Nat))), some (dt K (tabD m1)), some (dt K (tabD m2)), some (dt K (intsD l)), some (dt K (tabD (turnI m1 w))), some (dt K (.list (givL m1 m2 l w d))), none, none, none, none, none, none, none, none] _ _ _ _ _
  have bl1 : ∀ r ∈ m1, bl (10 ^ 39) r ∧ r.length ≤ 24 := fun r hr => ⟨ent_bl (t1.2 r hr), by rw [r1 r hr]; exact w2⟩
  have bl2 : ∀ r ∈ m2, bl (10 ^ 39) r ∧ r.length ≤ 24 := fun r hr => ⟨ent_bl (t2.2 r hr), by rw [r2 r hr]; exact d2⟩
  have s12 : smt (mulI m1 m2 d) := mul_smt (w := w) s1.1 (by omega) bl1 fun r hr => (bl2 r hr).1
  have hmul : ∀ (Γ : Gam), Γ[6]? = some (some (dt K (tabD m1))) → Γ[7]? = some (some (dt K (tabD m2))) → Ty W Γ (tCall (sp_law_times K) [] E0 (tCons (tVar 6) (tCons (tVar 7) tNil))) (dt K (tabD (mulI m1 m2 d))) := fun Γ q1 q2 => ty_call (m1, m2, d) ⟨s1, s2, n2, by show d ≤ 1000; omega, r2⟩ (tya_cons (ty_var q1) (tya_cons (ty_var q2) tya_nil))
  have okG : smOk 8 (.list (givL m1 m2 l w d)) := ⟨by show 4 ≤ 1000; decide, fun e he => by
    simp only [givL, List.mem_cons, List.not_mem_nil, or_false] at he
    rcases he with rfl | rfl | rfl | rfl
    · exact smOk_told (smOk_tab s12.1 fun r hr => (s12.2 r hr).1)
    · exact smOk_told (smOk_ints (by rw [applyI, List.length_map]; exact s2.1))
    · exact smOk_told (smOk_tab (by rw [turn_len]; omega) fun r hr => by rw [turn_rows r hr]; exact s1.1)
    · exact smOk_told (smOk_tab s1.1 fun r hr => (s1.2 r hr).1)⟩
  refine tys_guard (φ := (· = false)) (Tt.is (tt_notB (tt_B (ty_call (PyData.list (givL m1 m2 l w d)) okG (tya_cons (ty_var rfl) (tya_cons (ty_lstD (ds := givL m1 m2 l w d) (tya_cons (ty_told (hmul _ rfl rfl)) (tya_cons (ty_told (ty_call (m2, l) ⟨s2, sl⟩ (tya_cons (ty_var rfl) (tya_cons (ty_var rfl) tya_nil)))) (tya_cons (ty_told (ty_var rfl)) (tya_cons (ty_told (ty_var rfl)) tya_nil)))) (by show 4 ≤ 1000000; decide)) tya_nil))))) rfl) (fun z => Bool.noConfusion z) fun _ => ?_
  have hsm : TyL W [some bx, some (dt K (.bool x)), some (dt K (.bool gr)), some (dt K (.int (h : Nat))), some (dt K (.int (w : Nat))), some (dt K (.int (d : Nat))), some (dt K (tabD m1)), some (dt K (tabD m2)), some (dt K (intsD l)), some (dt K (tabD (turnI m1 w))), some (dt K (.list (givL m1 m2 l w d))), none, none, none, none, none, none, none, none] (tLc (iRng1 (tCons (tVar 5) tNil)) (gName 12) tYes (tOp (rI0 fun i j => .int (i - j)) (tCall (sp_law_take K) [] E0 (tCons (tVar 0) (tCons (tC (.int 19)) tNil))) (tC (.int 9))) [12]) (List.replicate d (exT fun i : Int => gd (i.natAbs ≤ 9) (dt K (.int i)))) := by
    have z : TyL W [some bx, some (dt K (.bool x)), some (dt K (.bool gr)), some (dt K (.int (h : Nat))), some (dt K (.int (w : Nat))), some (dt K (.int (d : Nat))), some (dt K (tabD m1)), some (dt K (tabD m2)), some (dt K (intsD l)), some (dt K (tabD (turnI m1 w))), some (dt K (.list (givL m1 m2 l w d))), none, none, none, none, none, none, none, none] (tLc (iRng1 (tCons (tVar 5) tNil)) (gName 12) tYes (tOp (rI0 fun i j => .int (i - j)) (tCall (sp_law_take K) [] E0 (tCons (tVar 0) (tCons (tC (.int 19)) tNil))) (tC (.int 9))) [12]) ((List.range d).map fun _ => exT fun i : Int => gd (i.natAbs ≤ 9) (dt K (.int i))) :=
      tyl_map (fun i : Nat => dt K (.int (i : Nat))) (fun _ => exT fun i : Int => gd (i.natAbs ≤ 9) (dt K (.int i))) (tyi_rng (n := d) (tya_cons (ty_var rfl) tya_nil) (by omega)) (by rw [List.length_range]; omega) (by decide) fun W' i hi => ty_opX (α := Nat) (β := Int) (A := fun k => gd (k < 19) (dt K (.int (k : Nat)))) (P := fun i => gd (i.natAbs ≤ 9) (dt K (.int i))) (dig _ _ 19 _ rfl (by decide) (by decide) (Ty.is ty_int rfl)) (ty_int (n := 9)) fun k => ⟨(k : Int) - 9, OpT.gdl fun hk => fun u v H c hu hv Q q => opt_sub u v H c hu hv Q fun w H1 e z => q w H1 e ⟨by omega, z⟩⟩
    rw [map_const, List.length_range] at z
    exact z
  refine tys_seqE (tys_set (T := exT fun s : List Int => gd (s.length = d ∧ ∀ v ∈ s, v.natAbs ≤ 9) (dt K (intsD s))) ((TyL.exs (K := K) (A := fun i : Int => dt K (.int i)) (φ := fun i => i.natAbs ≤ 9) hsm).sub fun v H _ ⟨l, k, z⟩ => ⟨l, k, tupT_data (ds := l.map .int) (by rw [List.map_map]; exact z)⟩)) ?_
  refine TyS.openX (n := 11) rfl fun s => TyS.openG (n := 11) rfl fun hs => ?_
  obtain ⟨ls, bs⟩ := hs
  show TyS W [some bx, some (dt K (.bool x)), some (dt K (.bool gr)), some (dt K (.int (h : Nat))), some (dt K (.int (w : Nat))), some (dt K (.int (d : Nat))), some (dt K (tabD m1)), some (dt K (tabD m2)), some (dt K (intsD l)), some (dt K (tabD (turnI m1 w))), some (dt K (.list (givL m1 m2 l w d))), some (dt K (intsD s)), none, none, none, none, none, none, none] _ _ _ _ _
  have ss : sml s := sml_of (B := 9) (by omega) bs (by decide +kernel)
  refine tys_seqE (tys_par (tya_cons (ty_call (m2, s) ⟨s2, ss⟩ (tya_cons (ty_var rfl) (tya_cons (ty_var rfl) tya_nil))) (tya_cons (ty_call (mulI m1 m2 d, s) ⟨s12, ss⟩ (tya_cons (hmul _ rfl rfl) (tya_cons (ty_var rfl) tya_nil))) tya_nil))) ?_
  show TyS W [some bx, some (dt K (.bool x)), some (dt K (.bool gr)), some (dt K (.int (h : Nat))), some (dt K (.int (w : Nat))), some (dt K (.int (d : Nat))), some (dt K (tabD m1)), some (dt K (tabD m2)), some (dt K (intsD l)), some (dt K (tabD (turnI m1 w))), some (dt K (.list (givL m1 m2 l w d))), some (dt K (intsD s)), none, some (dt K (intsD (applyI m2 s))), some (dt K (intsD (applyI (mulI m1 m2 d) s))), none, none, none, none] _ _ _ _ _
  have bb : bl (24 * (10 ^ 39 * 9)) (applyI m2 s) := app_bl bl2 bs
  have lb : (applyI m2 s).length = w := by rw [applyI, List.length_map, t2.1]
  have sb : sml (applyI m2 s) := sml_of (by rw [lb]; omega) bb (by decide +kernel)
  have asc : applyI m1 (applyI m2 s) = applyI (mulI m1 m2 d) s := apply_mul r2 (fun r hr => by rw [r1 r hr, t2.1]) ls
  have okA : smOk 8 (.list [.str "told", intsD (applyI (mulI m1 m2 d) s)]) := smOk_told (smOk_ints (by rw [applyI, List.length_map]; exact s12.1))
  have hcA : CallOk "applied" [tabD m1, intsD (applyI m2 s)] "told" (intsD (applyI (mulI m1 m2 d) s)) := by
    rw [← asc]
    exact CallOk.app (tabD m1) (intsD (applyI m2 s)) (applyI m1 (applyI m2 s)) ⟨T1'.okt, by show sizeD (intsD (applyI m2 s)) ≤ 1000; rw [size_ints]; exact sb.1, fun _ _ => ⟨m1, applyI m2 s, rfl, rfl, s1, sb, rfl⟩⟩ T1'.tab (by rw [w1']; exact line_of lb)
  refine tys_guard (φ := (· = false)) ((tt_and (φ := fun _ => True) (ψ := (· = false)) ?m1 fun _ => Tt.is (tt_notB (tt_B (ty_call (PyData.list [.str "told", intsD (applyI (mulI m1 m2 d) s)]) okA (tya_cons (ty_lawcall hcA (tya_cons ty_str (tya_cons (ty_lstD (ds := [tabD m1, intsD (applyI m2 s)]) (tya_cons (ty_var rfl) (tya_cons (ty_var rfl) tya_nil)) (by show 2 ≤ 1000000; decide)) (tya_cons (ty_var rfl) tya_nil)))) (tya_cons (ty_told (ty_var rfl)) tya_nil))))) rfl).sub fun z hz => hz.elim (fun q => q.1) fun q => q.2) (fun z => Bool.noConfusion z) fun _ => ?_
  case m1 =>
    have hmx : TyL W [some bx, some (dt K (.bool x)), some (dt K (.bool gr)), some (dt K (.int (h : Nat))), some (dt K (.int (w : Nat))), some (dt K (.int (d : Nat))), some (dt K (tabD m1)), some (dt K (tabD m2)), some (dt K (intsD l)), some (dt K (tabD (turnI m1 w))), some (dt K (.list (givL m1 m2 l w d))), some (dt K (intsD s)), none, some (dt K (intsD (applyI m2 s))), some (dt K (intsD (applyI (mulI m1 m2 d) s))), none, none, none, none] (tLc (iTup K (tVar 13)) (gName 15) tYes (tCB rAbs (tCons (tVar 15) tNil)) [15]) (((applyI m2 s).map absI).map fun n => dt K (.int n)) := by
      rw [List.map_map]
      exact tyl_map (fun v : Int => dt K (.int v)) (fun v : Int => dt K (.int (absI v))) (tyi_tupA (f := PyData.int) (ty_var rfl)) (by rw [lb]; omega) (by decide) fun W' v hv => ty_cb (tya_cons (ty_var rfl) tya_nil) cbt_abs
    refine tt_testE (K := K) (φ := fun _ => True) (ty_opX (α := Int) (β := Bool) (A := fun m : Int => gd (m ∈ (applyI m2 s).map absI ∧ ∀ y, y ∈ (applyI m2 s).map absI → y ≤ m) (dt K (.int m))) (P := fun c : Bool => gd True (dt K (.bool c))) (ty_cb (tya_cons hmx.ty tya_nil) (cbt_max ?_)) (ty_op (ty_int (n := 10)) (ty_int (n := 40)) (opt_pow ⟨by decide, by decide, by decide⟩)) fun m => ⟨_, OpT.gdl fun _ => fun u v H c hu hv Q q => opt_lt u v H c hu hv Q fun w H1 e z => q w H1 e ⟨trivial, z⟩⟩)
    intro e
    have z := congrArg List.length e
    rw [List.length_map, lb] at z
    simp at z
    omega
  refine tys_seqE (tys_set (T := digT K 25) (dig _ _ 25 _ rfl (by decide) (by decide) (Ty.is ty_int rfl))) ?_
  refine TyS.openX (n := 16) rfl fun lo => TyS.openG (n := 16) rfl fun hlo => ?_
  show TyS W [some bx, some (dt K (.bool x)), some (dt K (.bool gr)), some (dt K (.int (h : Nat))), some (dt K (.int (w : Nat))), some (dt K (.int (d : Nat))), some (dt K (tabD m1)), some (dt K (tabD m2)), some (dt K (intsD l)), some (dt K (tabD (turnI m1 w))), some (dt K (.list (givL m1 m2 l w d))), some (dt K (intsD s)), none, some (dt K (intsD (applyI m2 s))), some (dt K (intsD (applyI (mulI m1 m2 d) s))), none, some (dt K (.int (lo : Nat))), none, none] _ _ _ _ _
  refine tys_seqE (tys_par (tya_cons (ty_call lo (show lo ≤ 1000 by omega) (tya_cons (ty_var rfl) (tya_cons (ty_var rfl) tya_nil))) (tya_cons (ty_call lo (show lo ≤ 1000 by omega) (tya_cons (ty_var rfl) (tya_cons (ty_var rfl) tya_nil))) tya_nil))) ?_
  refine TyS.openX (n := 17) rfl fun a1 => TyS.openG (n := 17) rfl fun q1 => TyS.openX (n := 18) rfl fun a2 => TyS.openG (n := 18) rfl fun q2 => ?_
  have q1 : LinOk lo a1 := q1
  have q2 : LinOk lo a2 := q2
  show TyS W [some bx, some (dt K (.bool x)), some (dt K (.bool gr)), some (dt K (.int (h : Nat))), some (dt K (.int (w : Nat))), some (dt K (.int (d : Nat))), some (dt K (tabD m1)), some (dt K (tabD m2)), some (dt K (intsD l)), some (dt K (tabD (turnI m1 w))), some (dt K (.list (givL m1 m2 l w d))), some (dt K (intsD s)), none, some (dt K (intsD (applyI m2 s))), some (dt K (intsD (applyI (mulI m1 m2 d) s))), none, some (dt K (.int (lo : Nat))), some (dt K (intsD a1)), some (dt K (intsD a2))] _ _ _ _ _
  have sa1 : sml a1 := lin_sml q1 (by omega)
  have sa2 : sml a2 := lin_sml q2 (by omega)
  have okD : smOk 8 (.list [.str "told", .int (dotI a1 a2)]) := smOk_told (n := 6) trivial
  have hcD : CallOk "dot" [intsD a1, intsD a2] "told" (.int (dotI a1 a2)) := CallOk.dot (intsD a1) (intsD a2) (dotI a1 a2) ⟨by show sizeD (intsD a1) ≤ 1000; rw [size_ints]; exact sa1.1, by show sizeD (intsD a2) ≤ 1000; rw [size_ints]; exact sa2.1, fun _ _ => ⟨a1, a2, rfl, rfl, sa1, sa2, rfl⟩⟩ (line_is (by rw [q1.1]; omega)) (by rw [size_ints, q1.1]; exact line_of q2.1)
  refine tys_guard (φ := (· = false)) (Tt.is (tt_notB (tt_B (ty_call (PyData.list [.str "told", .int (dotI a1 a2)]) okD (tya_cons (ty_lawcall hcD (tya_cons ty_str (tya_cons (ty_lstD (ds := [intsD a1, intsD a2]) (tya_cons (ty_var rfl) (tya_cons (ty_var rfl) tya_nil)) (by show 2 ≤ 1000000; decide)) (tya_cons (ty_var rfl) tya_nil)))) (tya_cons (ty_told (ty_call (a1, a2) ⟨sa1, sa2⟩ (tya_cons (ty_var rfl) (tya_cons (ty_var rfl) tya_nil)))) tya_nil))))) rfl) (fun z => Bool.noConfusion z) fun _ => ?_
  refine TyS.never (tys_retW (Ty.is (ty_andV (a := true) (b := true) (ty_call x trivial (tya_cons (ty_var rfl) (tya_cons (ty_var rfl) tya_nil))) fun _ => ?_) rfl))
  refine ty_callX (As := [bx, dt K (tabD m1), lineT K w, dt K (.bool x)]) (tya_cons (ty_var rfl) (tya_cons (ty_var rfl) (tya_cons (ty_call w (show w ≤ 1000 by omega) (tya_cons (ty_var rfl) (tya_cons (ty_var rfl) tya_nil))) (tya_cons (ty_var rfl) tya_nil)))) fun vs H hv => ?_
  obtain ⟨v0, v1, v2, v3, rfl, k0, k1, ⟨q, hq, k2⟩, k3⟩ := tysv4 hv
  exact ⟨(m1, q, w, x), T1 q hq.1, ⟨k0, k1, k2, k3, True.intro⟩, fun v H' z => z⟩
end
section
variable {P : Program} {w : World} {K : PySem.W.Frag} {mg : Str → Option Value} {base : Heap}
theorem tyl_callX {W : Wd} {Γ : Gam} {tl : TA} {α : Type} {C : α → Prop} {A Ts : α → List Typ} {E : XK} {As Us : List Typ} (h : TyA W Γ tl As)
    (k : ∀ vs H, TysV W.M W.B As vs H → ∃ x, C x ∧ TysV W.M W.B (A x) vs H ∧ ∀ xs H', TysV W.M W.B (Ts x) xs H' → TysV W.M W.B Us xs H') : TyL W Γ (tCall (spL C A Ts) [] E tl) Us := fun σ H c g Q q =>
  h σ H c g _ fun vs H1 e1 hv => by
    obtain ⟨x, hC, hA, hR⟩ := k vs H1 hv
    exact ⟨W.M, W.B, x, W.sub, (c.up e1).box, (c.up e1).al, hC, by rw [List.append_nil]; exact hA, fun p xs H2 e2 hp h2 h3 => q p xs H2 (e1.trans e2) (e1.free hp) h2 (hR xs H2 h3)⟩
def bxU (K : PySem.W.Frag) : List Typ := [exT fun i : Int => dt K (.int i), exT fun b : Bool => dt K (.bool b), exT fun c : Int => gd (0 ≤ c ∧ c < 2147483629) (dt K (.int c)), exT fun i : Int => dt K (.int i)]
theorem bxU_box {K : PySem.W.Frag} {M B : Addr → Prop} {xs : List V} {H : Hp} (h : TysV M B (bxU K) xs H) : BxL xs := by
  unfold bxU at h
  obtain ⟨a, b, c, d, rfl, h1, h2, h3, h4⟩ := tysv4 h
  obtain ⟨i, h1⟩ := h1
  obtain ⟨z, h2⟩ := h2
  obtain ⟨k, hk, h3⟩ := h3
  obtain ⟨j, h4⟩ := h4
  cases h1; cases h2; cases h3; cases h4
  exact ⟨_, _, _, _, rfl, hk.1, hk.2⟩
theorem boxTs_U {K : PySem.W.Frag} {M B : Addr → Prop} {g : Int} {xs : List V} {H : Hp} (h : TysV M B (boxTs K g) xs H) : TysV M B (bxU K) xs H := by
  obtain ⟨a, b, c, d, rfl, h1, h2, h3, h4⟩ := tysv4 h
  have k1 : (exT fun i : Int => dt K (.int i)).p M B a H := ⟨absI g, h1⟩
  have k2 : (exT fun b : Bool => dt K (.bool b)).p M B b H := ⟨decide ((10 : Int) ^ (18 : Int).toNat ≤ absI g), h2⟩
  have k3 : (exT fun c : Int => gd (0 ≤ c ∧ c < 2147483629) (dt K (.int c))).p M B c H := ⟨absI g % 2147483629, ⟨Int.emod_nonneg _ (by decide), Int.emod_lt_of_pos _ (by decide)⟩, h3⟩
  have k4 : (exT fun i : Int => dt K (.int i)).p M B d H := ⟨0, h4⟩
  exact ⟨k1, k2, k3, k4, True.intro⟩
theorem env2 {M B : Addr → Prop} {A C : Typ} {σ : Sx} {H : Hp} (g : EnvL M B [some A, some C, none, none] σ H) : ∃ u v s2 s3, σ = [some u, some v, s2, s3] ∧ A.p M B u H ∧ C.p M B v H := by
  match σ, g with
  | [some u, some v, s2, s3], g => exact ⟨u, v, s2, s3, rfl, g.1, g.2.1⟩
theorem env1 {M B : Addr → Prop} {A : Typ} {σ : Sx} {H : Hp} (g : EnvL M B [some A, none, none, none] σ H) : ∃ u s1 s2 s3, σ = [some u, s1, s2, s3] ∧ A.p M B u H := by
  match σ, g with
  | [some u, s1, s2, s3], g => exact ⟨u, s1, s2, s3, rfl, g.1⟩
theorem tysv1 {M B : Addr → Prop} {A1 : Typ} {us : List V} {H : Hp} (h : TysV M B [A1] us H) : ∃ a, us = [a] ∧ A1.p M B a H := by
  match us, h with
  | [a], h => exact ⟨a, rfl, h.1⟩
def sp_law (K : PySem.W.Frag) : Sp := spT (fun _ : List Int => True) (fun ns => [scrT K ns]) (fun _ => dt K (.bool true))
theorem ok_law (T : Tx P K mg) : FnOk P w K mg base (L2.CX P w) 15 T.a_law T.f_law ["script"] (sp_law K) := by
  have G_law_box := ok_law_box (w := w) (base := base) T
  have G_law_cell := ok_law_cell (w := w) (base := base) T
  have G_law_take := ok_law_take (w := w) (base := base) T
  have G_law_scene_right := ok_law_scene_right (w := w) (base := base) T
  have nd := sc_law.nd
  refine fn_ty T.F_law sc_law (fun x _ => rfl) fun cdv Ar outer s H E hr => ⟨_, (pss_cons (ps_for PassesOwn.never rfl (pi_range1 rfl T.m_range (pa_cons (bi_max2 T.m_max (pa_cons pe_int (pa_cons (bi_min2 T.m_min (pa_cons pe_int (pa_cons (k_len (K := K) rfl T.m_len (pa_cons (pv 0) pa_nil)) pa_nil))) pa_nil))) pa_nil)) (pgn 1 nd) (pss_cons (pset 2 nd (pcall G_law_box (hr.mono (by decide)) T.D_law_box (pa_cons (pcall G_law_cell (hr.mono (by decide)) T.D_law_cell (pa_cons (pv 0) (pa_cons (pv 1) pa_nil))) pa_nil)))
    (pss_cons (pset 3 nd (pe_cmpR (k_eq (K := K) rfl hr.units) (pcall G_law_take (hr.mono (by decide)) T.D_law_take (pa_cons (pv 2) (pa_cons pe_int pa_nil))) pe_int (nomark _)))
    (pss_one (ps_if (PW.pt (pw_or (pt_not (pt_val (pcall G_law_scene_right (hr.mono (by decide)) T.D_law_scene_right (pa_cons (pv 2) (pa_cons (pv 3) pa_nil))))) (pw_or1 (pt_not (pt_val (pcall G_law_scene_right (hr.mono (by decide)) T.D_law_scene_right (pa_cons (pv 2) (pa_cons (pe_not (pv 3)) pa_nil)))))))) (pss_one (ps_ret pe_bl)) pss_nil)))))
    (pss_one (ps_ret pe_bl))), fun W x hC => ?_⟩
  refine tys_seqE (W' := W) (Γ' := [some (scrT K x), none, none, none]) ?_ (TyS.never (tys_retW ty_bl))
  have hi : TyI W [some (scrT K x), none, none, none] (iRng1 (tCons (tCB rMax2 (tCons (tC (.int 2)) (tCons (tCB rMin2 (tCons (tC (.int 4)) (tCons (tCB (rLen K) (tCons (tVar 0) tNil)) tNil))) tNil))) tNil)) ((List.range (if (if ((x.length : Nat) : Int) < 4 then ((x.length : Nat) : Int) else 4) > 2 then (if ((x.length : Nat) : Int) < 4 then ((x.length : Nat) : Int) else 4) else 2 : Int).toNat).map fun i : Nat => dt K (.int (i : Nat))) := by
    refine tyi_rng1 (tya_cons (ty_cb (tya_cons ty_int (tya_cons (ty_cb (tya_cons ty_int (tya_cons (ty_cb (tya_cons (ty_var rfl) tya_nil) cbt_lenScr) tya_nil)) cbt_min2) tya_nil)) cbt_max2) tya_nil) ?_ ?_
    · split <;> (try split) <;> omega
    · split <;> (try split) <;> omega
  have hn : (if (if ((x.length : Nat) : Int) < 4 then ((x.length : Nat) : Int) else 4) > 2 then (if ((x.length : Nat) : Int) < 4 then ((x.length : Nat) : Int) else 4) else 2 : Int).toNat ≤ 4 := by
    split <;> (try split) <;> omega
  generalize (if (if ((x.length : Nat) : Int) < 4 then ((x.length : Nat) : Int) else 4) > 2 then (if ((x.length : Nat) : Int) < 4 then ((x.length : Nat) : Int) else 4) else 2 : Int).toNat = m at hi hn
  refine tys_for (Wi := fun _ (_ : Unit) => W) (Γi := fun _ (_ : Unit) => [some (scrT K x), none, none, none]) () hi (fun _ _ => Wd.Like.refl W) (fun σ H g => g) (fun i T' _ hT => ?_) (fun _ σ H g => g)
  obtain ⟨hl, rfl⟩ := range_map_get hT
  refine ⟨_, tyg_name 1, ?_⟩
  show TyS W [some (scrT K x), some (dt K (.int (i : Nat))), none, none] _ _ _ _ _
  refine TyS.imp (tys_box (Γ' := [some (scrT K x), none, none, none]) (T := dt K (.bool true)) (tyl_callX (As := [intT K]) (Us := bxU K) (tya_cons (ty_call (x, i) (show i ≤ 1000 by omega) (tya_cons (ty_var rfl) (tya_cons (ty_var rfl) tya_nil))) tya_nil) fun vs H hv => ?_) (fun xs H h => bxU_box h) (fun p σ H0 H e h0 g => ?_) (fun p np => ?_) (fun p σ H g => ?_) (fun p v H z => Rp.drop z)) fun σ H g => ⟨(), g⟩
  · obtain ⟨a, rfl, g, hg⟩ := tysv1 hv
    exact ⟨g, trivial, ⟨hg, True.intro⟩, fun xs H' z => boxTs_U z⟩
  · obtain ⟨u, v, s2, s3, rfl, g1, g2⟩ := env2 g
    cases g2
    have g3 : (scrT K x).p W.M W.B u H := (scrT K x).up e g1
    exact ⟨g3, .int _, True.intro⟩
  · show TyS (W.bx p) [some (scrT K x), some (dt K (.int (i : Nat))), some bx, none] _ _ _ _ _
    refine tys_seqE (tys_set (T := exT fun g : Bool => dt K (.bool g)) (ty_opX (α := Nat) (A := fun k => gd (k < 2) (dt K (.int (k : Nat)))) (P := fun g : Bool => dt K (.bool g)) (ty_call 2 ⟨by decide, by decide⟩ (tya_cons (ty_var rfl) (tya_cons (Ty.is ty_int rfl) tya_nil))) (ty_int (n := 0)) fun k => ⟨decide ((k : Int) = 0), OpT.gdl fun _ => opt_eqI⟩)) ?_
    refine TyS.openX (n := 3) rfl fun nm => ?_
    show TyS (W.bx p) [some (scrT K x), some (dt K (.int (i : Nat))), some bx, some (dt K (.bool nm))] _ _ _ _ _
    refine tys_if (φ := (· = false)) (Tt.is (tt_orB (a := false) (Tt.is (tt_notB (tt_B (ty_call nm trivial (tya_cons (ty_var rfl) (tya_cons (ty_var rfl) tya_nil))))) rfl) fun _ => Tt.is (tt_notB (tt_B (ty_call (!nm) trivial (tya_cons (ty_var rfl) (tya_cons (ty_notV (ty_var rfl)) tya_nil))))) rfl) rfl) (fun z => Bool.noConfusion z) (fun _ => tys_next.imp fun σ H n => ⟨n.1, EnvL.less (by exact ⟨fun _ _ _ _ h => h, True.intro⟩) n.2⟩)
  · obtain ⟨u, s1, s2, s3, rfl, g1⟩ := env1 g
    exact ⟨g1, True.intro⟩
end
end
section
open PySem PySem.Spec PyProof.Rows L2 Ew
theorem exm_of {K : PySem.W.Frag} {S R : Addr} {b : Bool} (h1 : PySem.W.subIn K (.ref S) (.type "BaseException") = some true) (h1' : PySem.W.subIn K (.ref R) (.type "BaseException") = some true) (h2 : PySem.W.isClsIn K R = true) (h3 : PySem.W.typeIn K (.ref R) = some (.type "type")) (h4 : PySem.W.subIn K (.ref S) (.ref R) = some b) :
    PySem.W.exmOne K (.ref S) (.ref R) = some b := by
  have e1 : (PySem.W.subIn K (.ref R) (.type "BaseException") == some true) = true := by rw [h1'] <;> rfl
  have e2 : ((PySem.W.clsIn K R).isSome && PySem.W.typeIn K (.ref R) == some (.type "type")) = true := by
    have h2' : (PySem.W.clsIn K R).isSome = true := h2
    rw [h2', h3] <;> rfl
  show (if (PySem.W.subIn K (.ref R) (.type "BaseException") == some true) = true then (if ((PySem.W.clsIn K R).isSome && PySem.W.typeIn K (.ref R) == some (.type "type")) = true then PySem.W.subIn K (.ref S) (.ref R) else none) else none) = some b
  rw [if_pos e1, if_pos e2]
  exact h4
theorem all_mk {P : Program} {w : World} {K : PySem.W.Frag} {h : Heap} {mg : Str → Option Value} {fa : Addr} (X : K.In h) (G : h.Ns mainGlobals mg) (hfa : mg "law" = some (.ref fa))
    {f_is_whole : Addr} {oc_is_whole kV_is_whole dc_is_whole pm_is_whole cd_is_whole ct_is_whole : Value} {od_is_whole an_is_whole : Option Addr} {sl_is_whole : Array (Option Value)}
    {f_is_line_of : Addr} {oc_is_line_of kV_is_line_of dc_is_line_of pm_is_line_of cd_is_line_of ct_is_line_of : Value} {od_is_line_of an_is_line_of : Option Addr} {sl_is_line_of : Array (Option Value)}
    {f_is_line : Addr} {oc_is_line kV_is_line dc_is_line pm_is_line cd_is_line ct_is_line : Value} {od_is_line an_is_line : Option Addr} {sl_is_line : Array (Option Value)}
    {f_is_table : Addr} {oc_is_table kV_is_table dc_is_table pm_is_table cd_is_table ct_is_table : Value} {od_is_table an_is_table : Option Addr} {sl_is_table : Array (Option Value)}
    {f_check_table : Addr} {oc_check_table kV_check_table dc_check_table pm_check_table cd_check_table ct_check_table : Value} {od_check_table an_check_table : Option Addr} {sl_check_table : Array (Option Value)}
    {f_dotted : Addr} {oc_dotted kV_dotted dc_dotted pm_dotted cd_dotted ct_dotted : Value} {od_dotted an_dotted : Option Addr} {sl_dotted : Array (Option Value)}
    {f_applied_to : Addr} {oc_applied_to kV_applied_to dc_applied_to pm_applied_to cd_applied_to ct_applied_to : Value} {od_applied_to an_applied_to : Option Addr} {sl_applied_to : Array (Option Value)}
    {f_turned_of : Addr} {oc_turned_of kV_turned_of dc_turned_of pm_turned_of cd_turned_of ct_turned_of : Value} {od_turned_of an_turned_of : Option Addr} {sl_turned_of : Array (Option Value)}
    {f_mixed_of : Addr} {oc_mixed_of kV_mixed_of dc_mixed_of pm_mixed_of cd_mixed_of ct_mixed_of : Value} {od_mixed_of an_mixed_of : Option Addr} {sl_mixed_of : Array (Option Value)}
    {f_times_of : Addr} {oc_times_of kV_times_of dc_times_of pm_times_of cd_times_of ct_times_of : Value} {od_times_of an_times_of : Option Addr} {sl_times_of : Array (Option Value)}
    {f_unit_table : Addr} {oc_unit_table kV_unit_table dc_unit_table pm_unit_table cd_unit_table ct_unit_table : Value} {od_unit_table an_unit_table : Option Addr} {sl_unit_table : Array (Option Value)}
    {f_dot : Addr} {oc_dot kV_dot dc_dot pm_dot cd_dot ct_dot : Value} {od_dot an_dot : Option Addr} {sl_dot : Array (Option Value)}
    {f_applied : Addr} {oc_applied kV_applied dc_applied pm_applied cd_applied ct_applied : Value} {od_applied an_applied : Option Addr} {sl_applied : Array (Option Value)}
    {f_times : Addr} {oc_times kV_times dc_times pm_times cd_times ct_times : Value} {od_times an_times : Option Addr} {sl_times : Array (Option Value)}
    {f_turned : Addr} {oc_turned kV_turned dc_turned pm_turned cd_turned ct_turned : Value} {od_turned an_turned : Option Addr} {sl_turned : Array (Option Value)}
    {f_is_unit : Addr} {oc_is_unit kV_is_unit dc_is_unit pm_is_unit cd_is_unit ct_is_unit : Value} {od_is_unit an_is_unit : Option Addr} {sl_is_unit : Array (Option Value)}
    {f_law_box : Addr} {oc_law_box kV_law_box dc_law_box pm_law_box cd_law_box ct_law_box : Value} {od_law_box an_law_box : Option Addr} {sl_law_box : Array (Option Value)}
    {f_law_take : Addr} {oc_law_take kV_law_take dc_law_take pm_law_take cd_law_take ct_law_take : Value} {od_law_take an_law_take : Option Addr} {sl_law_take : Array (Option Value)}
    {f_law_cell : Addr} {oc_law_cell kV_law_cell dc_law_cell pm_law_cell cd_law_cell ct_law_cell : Value} {od_law_cell an_law_cell : Option Addr} {sl_law_cell : Array (Option Value)}
    {f_law_same : Addr} {oc_law_same kV_law_same dc_law_same pm_law_same cd_law_same ct_law_same : Value} {od_law_same an_law_same : Option Addr} {sl_law_same : Array (Option Value)}
    {f_law_entry : Addr} {oc_law_entry kV_law_entry dc_law_entry pm_law_entry cd_law_entry ct_law_entry : Value} {od_law_entry an_law_entry : Option Addr} {sl_law_entry : Array (Option Value)}
    {f_law_line : Addr} {oc_law_line kV_law_line dc_law_line pm_law_line cd_law_line ct_law_line : Value} {od_law_line an_law_line : Option Addr} {sl_law_line : Array (Option Value)}
    {f_law_table : Addr} {oc_law_table kV_law_table dc_law_table pm_law_table cd_law_table ct_law_table : Value} {od_law_table an_law_table : Option Addr} {sl_law_table : Array (Option Value)}
    {f_law_dot : Addr} {oc_law_dot kV_law_dot dc_law_dot pm_law_dot cd_law_dot ct_law_dot : Value} {od_law_dot an_law_dot : Option Addr} {sl_law_dot : Array (Option Value)}
    {f_law_applied : Addr} {oc_law_applied kV_law_applied dc_law_applied pm_law_applied cd_law_applied ct_law_applied : Value} {od_law_applied an_law_applied : Option Addr} {sl_law_applied : Array (Option Value)}
    {f_law_columns : Addr} {oc_law_columns kV_law_columns dc_law_columns pm_law_columns cd_law_columns ct_law_columns : Value} {od_law_columns an_law_columns : Option Addr} {sl_law_columns : Array (Option Value)}
    {f_law_times : Addr} {oc_law_times kV_law_times dc_law_times pm_law_times cd_law_times ct_law_times : Value} {od_law_times an_law_times : Option Addr} {sl_law_times : Array (Option Value)}
    {f_law_still : Addr} {oc_law_still kV_law_still dc_law_still pm_law_still cd_law_still ct_law_still : Value} {od_law_still an_law_still : Option Addr} {sl_law_still : Array (Option Value)}
    {f_law_call : Addr} {oc_law_call kV_law_call dc_law_call pm_law_call cd_law_call ct_law_call : Value} {od_law_call an_law_call : Option Addr} {sl_law_call : Array (Option Value)}
    {f_law_unit : Addr} {oc_law_unit kV_law_unit dc_law_unit pm_law_unit cd_law_unit ct_law_unit : Value} {od_law_unit an_law_unit : Option Addr} {sl_law_unit : Array (Option Value)}
    {f_law_units_right : Addr} {oc_law_units_right kV_law_units_right dc_law_units_right pm_law_units_right cd_law_units_right ct_law_units_right : Value} {od_law_units_right an_law_units_right : Option Addr} {sl_law_units_right : Array (Option Value)}
    {f_law_refused_right : Addr} {oc_law_refused_right kV_law_refused_right dc_law_refused_right pm_law_refused_right cd_law_refused_right ct_law_refused_right : Value} {od_law_refused_right an_law_refused_right : Option Addr} {sl_law_refused_right : Array (Option Value)}
    {f_law_scene_right : Addr} {oc_law_scene_right kV_law_scene_right dc_law_scene_right pm_law_scene_right cd_law_scene_right ct_law_scene_right : Value} {od_law_scene_right an_law_scene_right : Option Addr} {sl_law_scene_right : Array (Option Value)}
    {f_law : Addr} {oc_law kV_law dc_law pm_law cd_law ct_law : Value} {od_law an_law : Option Addr} {sl_law : Array (Option Value)}
    {tk_MOST_WIDE : Tok}
    {D fI Td cda cc : Addr} {nmD qD : Str} {ND : Addr} {bsD subD : List Value} {snD : List Str} {abD : Bool} {colD : Option Bool} {ddD : Option Addr} {w0 w1 w2 w3 w5 : Option Value}
    {iOc ikV idoc ipm ict : Value} {iod ian : Option Addr} {iosl : Array (Option Value)} {p1 p2 p3 q1 q2 q3 q4 q5 q6 q7 q8 q9 q10 : Pos} {ccl cl tc : Value} {cdd cld td : Option Addr} {vs : Array Value} {ccs csl tsl : Array (Option Value)} {file : Str} {tf : Tok} {nT : Nat}
    {C_InvalidLine : Addr} {nm_InvalidLine q_InvalidLine : Str} {N_InvalidLine : Addr} {bs_InvalidLine su_InvalidLine : List Value} {sn_InvalidLine : List Str} {ab_InvalidLine : Bool} {col_InvalidLine : Option Bool} {dd_InvalidLine : Option Addr} {u0_InvalidLine u1_InvalidLine u2_InvalidLine u3_InvalidLine u5_InvalidLine : Option Value}
    {C_InvalidTable : Addr} {nm_InvalidTable q_InvalidTable : Str} {N_InvalidTable : Addr} {bs_InvalidTable su_InvalidTable : List Value} {sn_InvalidTable : List Str} {ab_InvalidTable : Bool} {col_InvalidTable : Option Bool} {dd_InvalidTable : Option Addr} {u0_InvalidTable u1_InvalidTable u2_InvalidTable u3_InvalidTable u5_InvalidTable : Option Value}
    (a_is_whole : PySem.W.nsIn K mainGlobals "is_whole" = some (some (.ref f_is_whole)))
    (l_is_whole : K.lookup f_is_whole = some ⟨oc_is_whole, od_is_whole, .func (PySem.W.fnOf "is_whole" "is_whole" (defArgs s_is_whole) (defBody s_is_whole) (defScope s_is_whole) .none kV_is_whole dc_is_whole pm_is_whole an_is_whole cd_is_whole ct_is_whole), sl_is_whole⟩)
    (c_is_whole : PySem.W.codeIn K cd_is_whole "is_whole" = true)
    (k_is_whole : PySem.W.keepIn K (.ref f_is_whole) = true)
    (a_is_line_of : PySem.W.nsIn K mainGlobals "is_line_of" = some (some (.ref f_is_line_of)))
    (l_is_line_of : K.lookup f_is_line_of = some ⟨oc_is_line_of, od_is_line_of, .func (PySem.W.fnOf "is_line_of" "is_line_of" (defArgs s_is_line_of) (defBody s_is_line_of) (defScope s_is_line_of) .none kV_is_line_of dc_is_line_of pm_is_line_of an_is_line_of cd_is_line_of ct_is_line_of), sl_is_line_of⟩)
    (c_is_line_of : PySem.W.codeIn K cd_is_line_of "is_line_of" = true)
    (k_is_line_of : PySem.W.keepIn K (.ref f_is_line_of) = true)
    (a_is_line : PySem.W.nsIn K mainGlobals "is_line" = some (some (.ref f_is_line)))
    (l_is_line : K.lookup f_is_line = some ⟨oc_is_line, od_is_line, .func (PySem.W.fnOf "is_line" "is_line" (defArgs s_is_line) (defBody s_is_line) (defScope s_is_line) .none kV_is_line dc_is_line pm_is_line an_is_line cd_is_line ct_is_line), sl_is_line⟩)
    (c_is_line : PySem.W.codeIn K cd_is_line "is_line" = true)
    (k_is_line : PySem.W.keepIn K (.ref f_is_line) = true)
    (a_is_table : PySem.W.nsIn K mainGlobals "is_table" = some (some (.ref f_is_table)))
    (l_is_table : K.lookup f_is_table = some ⟨oc_is_table, od_is_table, .func (PySem.W.fnOf "is_table" "is_table" (defArgs s_is_table) (defBody s_is_table) (defScope s_is_table) .none kV_is_table dc_is_table pm_is_table an_is_table cd_is_table ct_is_table), sl_is_table⟩)
    (c_is_table : PySem.W.codeIn K cd_is_table "is_table" = true)
    (k_is_table : PySem.W.keepIn K (.ref f_is_table) = true)
    (a_check_table : PySem.W.nsIn K mainGlobals "check_table" = some (some (.ref f_check_table)))
    (l_check_table : K.lookup f_check_table = some ⟨oc_check_table, od_check_table, .func (PySem.W.fnOf "check_table" "check_table" (defArgs s_check_table) (defBody s_check_table) (defScope s_check_table) .none kV_check_table dc_check_table pm_check_table an_check_table cd_check_table ct_check_table), sl_check_table⟩)
    (c_check_table : PySem.W.codeIn K cd_check_table "check_table" = true)
    (k_check_table : PySem.W.keepIn K (.ref f_check_table) = true)
    (a_dotted : PySem.W.nsIn K mainGlobals "dotted" = some (some (.ref f_dotted)))
    (l_dotted : K.lookup f_dotted = some ⟨oc_dotted, od_dotted, .func (PySem.W.fnOf "dotted" "dotted" (defArgs s_dotted) (defBody s_dotted) (defScope s_dotted) .none kV_dotted dc_dotted pm_dotted an_dotted cd_dotted ct_dotted), sl_dotted⟩)
    (c_dotted : PySem.W.codeIn K cd_dotted "dotted" = true)
    (k_dotted : PySem.W.keepIn K (.ref f_dotted) = true)
    (a_applied_to : PySem.W.nsIn K mainGlobals "applied_to" = some (some (.ref f_applied_to)))
    (l_applied_to : K.lookup f_applied_to = some ⟨oc_applied_to, od_applied_to, .func (PySem.W.fnOf "applied_to" "applied_to" (defArgs s_applied_to) (defBody s_applied_to) (defScope s_applied_to) .none kV_applied_to dc_applied_to pm_applied_to an_applied_to cd_applied_to ct_applied_to), sl_applied_to⟩)
    (c_applied_to : PySem.W.codeIn K cd_applied_to "applied_to" = true)
    (k_applied_to : PySem.W.keepIn K (.ref f_applied_to) = true)
    (a_turned_of : PySem.W.nsIn K mainGlobals "turned_of" = some (some (.ref f_turned_of)))
    (l_turned_of : K.lookup f_turned_of = some ⟨oc_turned_of, od_turned_of, .func (PySem.W.fnOf "turned_of" "turned_of" (defArgs s_turned_of) (defBody s_turned_of) (defScope s_turned_of) .none kV_turned_of dc_turned_of pm_turned_of an_turned_of cd_turned_of ct_turned_of), sl_turned_of⟩)
    (c_turned_of : PySem.W.codeIn K cd_turned_of "turned_of" = true)
    (k_turned_of : PySem.W.keepIn K (.ref f_turned_of) = true)
    (a_mixed_of : PySem.W.nsIn K mainGlobals "mixed_of" = some (some (.ref f_mixed_of)))
    (l_mixed_of : K.lookup f_mixed_of = some ⟨oc_mixed_of, od_mixed_of, .func (PySem.W.fnOf "mixed_of" "mixed_of" (defArgs s_mixed_of) (defBody s_mixed_of) (defScope s_mixed_of) .none kV_mixed_of dc_mixed_of pm_mixed_of an_mixed_of cd_mixed_of ct_mixed_of), sl_mixed_of⟩)
    (c_mixed_of : PySem.W.codeIn K cd_mixed_of "mixed_of" = true)
    (k_mixed_of : PySem.W.keepIn K (.ref f_mixed_of) = true)
    (a_times_of : PySem.W.nsIn K mainGlobals "times_of" = some (some (.ref f_times_of)))
    (l_times_of : K.lookup f_times_of = some ⟨oc_times_of, od_times_of, .func (PySem.W.fnOf "times_of" "times_of" (defArgs s_times_of) (defBody s_times_of) (defScope s_times_of) .none kV_times_of dc_times_of pm_times_of an_times_of cd_times_of ct_times_of), sl_times_of⟩)
    (c_times_of : PySem.W.codeIn K cd_times_of "times_of" = true)
    (k_times_of : PySem.W.keepIn K (.ref f_times_of) = true)
    (a_unit_table : PySem.W.nsIn K mainGlobals "unit_table" = some (some (.ref f_unit_table)))
    (l_unit_table : K.lookup f_unit_table = some ⟨oc_unit_table, od_unit_table, .func (PySem.W.fnOf "unit_table" "unit_table" (defArgs s_unit_table) (defBody s_unit_table) (defScope s_unit_table) .none kV_unit_table dc_unit_table pm_unit_table an_unit_table cd_unit_table ct_unit_table), sl_unit_table⟩)
    (c_unit_table : PySem.W.codeIn K cd_unit_table "unit_table" = true)
    (k_unit_table : PySem.W.keepIn K (.ref f_unit_table) = true)
    (a_dot : PySem.W.nsIn K mainGlobals "dot" = some (some (.ref f_dot)))
    (l_dot : K.lookup f_dot = some ⟨oc_dot, od_dot, .func (PySem.W.fnOf "dot" "dot" (defArgs s_dot) (defBody s_dot) (defScope s_dot) .none kV_dot dc_dot pm_dot an_dot cd_dot ct_dot), sl_dot⟩)
    (c_dot : PySem.W.codeIn K cd_dot "dot" = true)
    (k_dot : PySem.W.keepIn K (.ref f_dot) = true)
    (a_applied : PySem.W.nsIn K mainGlobals "applied" = some (some (.ref f_applied)))
    (l_applied : K.lookup f_applied = some ⟨oc_applied, od_applied, .func (PySem.W.fnOf "applied" "applied" (defArgs s_applied) (defBody s_applied) (defScope s_applied) .none kV_applied dc_applied pm_applied an_applied cd_applied ct_applied), sl_applied⟩)
    (c_applied : PySem.W.codeIn K cd_applied "applied" = true)
    (k_applied : PySem.W.keepIn K (.ref f_applied) = true)
    (a_times : PySem.W.nsIn K mainGlobals "times" = some (some (.ref f_times)))
    (l_times : K.lookup f_times = some ⟨oc_times, od_times, .func (PySem.W.fnOf "times" "times" (defArgs s_times) (defBody s_times) (defScope s_times) .none kV_times dc_times pm_times an_times cd_times ct_times), sl_times⟩)
    (c_times : PySem.W.codeIn K cd_times "times" = true)
    (k_times : PySem.W.keepIn K (.ref f_times) = true)
    (a_turned : PySem.W.nsIn K mainGlobals "turned" = some (some (.ref f_turned)))
    (l_turned : K.lookup f_turned = some ⟨oc_turned, od_turned, .func (PySem.W.fnOf "turned" "turned" (defArgs s_turned) (defBody s_turned) (defScope s_turned) .none kV_turned dc_turned pm_turned an_turned cd_turned ct_turned), sl_turned⟩)
    (c_turned : PySem.W.codeIn K cd_turned "turned" = true)
    (k_turned : PySem.W.keepIn K (.ref f_turned) = true)
    (a_is_unit : PySem.W.nsIn K mainGlobals "is_unit" = some (some (.ref f_is_unit)))
    (l_is_unit : K.lookup f_is_unit = some ⟨oc_is_unit, od_is_unit, .func (PySem.W.fnOf "is_unit" "is_unit" (defArgs s_is_unit) (defBody s_is_unit) (defScope s_is_unit) .none kV_is_unit dc_is_unit pm_is_unit an_is_unit cd_is_unit ct_is_unit), sl_is_unit⟩)
    (c_is_unit : PySem.W.codeIn K cd_is_unit "is_unit" = true)
    (k_is_unit : PySem.W.keepIn K (.ref f_is_unit) = true)
    (a_law_box : PySem.W.nsIn K mainGlobals "_law_box" = some (some (.ref f_law_box)))
    (l_law_box : K.lookup f_law_box = some ⟨oc_law_box, od_law_box, .func (PySem.W.fnOf "_law_box" "_law_box" (defArgs s_law_box) (defBody s_law_box) (defScope s_law_box) .none kV_law_box dc_law_box pm_law_box an_law_box cd_law_box ct_law_box), sl_law_box⟩)
    (c_law_box : PySem.W.codeIn K cd_law_box "_law_box" = true)
    (k_law_box : PySem.W.keepIn K (.ref f_law_box) = true)
    (a_law_take : PySem.W.nsIn K mainGlobals "_law_take" = some (some (.ref f_law_take)))
    (l_law_take : K.lookup f_law_take = some ⟨oc_law_take, od_law_take, .func (PySem.W.fnOf "_law_take" "_law_take" (defArgs s_law_take) (defBody s_law_take) (defScope s_law_take) .none kV_law_take dc_law_take pm_law_take an_law_take cd_law_take ct_law_take), sl_law_take⟩)
    (c_law_take : PySem.W.codeIn K cd_law_take "_law_take" = true)
    (k_law_take : PySem.W.keepIn K (.ref f_law_take) = true)
    (a_law_cell : PySem.W.nsIn K mainGlobals "_law_cell" = some (some (.ref f_law_cell)))
    (l_law_cell : K.lookup f_law_cell = some ⟨oc_law_cell, od_law_cell, .func (PySem.W.fnOf "_law_cell" "_law_cell" (defArgs s_law_cell) (defBody s_law_cell) (defScope s_law_cell) .none kV_law_cell dc_law_cell pm_law_cell an_law_cell cd_law_cell ct_law_cell), sl_law_cell⟩)
    (c_law_cell : PySem.W.codeIn K cd_law_cell "_law_cell" = true)
    (k_law_cell : PySem.W.keepIn K (.ref f_law_cell) = true)
    (a_law_same : PySem.W.nsIn K mainGlobals "_law_same" = some (some (.ref f_law_same)))
    (l_law_same : K.lookup f_law_same = some ⟨oc_law_same, od_law_same, .func (PySem.W.fnOf "_law_same" "_law_same" (defArgs s_law_same) (defBody s_law_same) (defScope s_law_same) .none kV_law_same dc_law_same pm_law_same an_law_same cd_law_same ct_law_same), sl_law_same⟩)
    (c_law_same : PySem.W.codeIn K cd_law_same "_law_same" = true)
    (k_law_same : PySem.W.keepIn K (.ref f_law_same) = true)
    (a_law_entry : PySem.W.nsIn K mainGlobals "_law_entry" = some (some (.ref f_law_entry)))
    (l_law_entry : K.lookup f_law_entry = some ⟨oc_law_entry, od_law_entry, .func (PySem.W.fnOf "_law_entry" "_law_entry" (defArgs s_law_entry) (defBody s_law_entry) (defScope s_law_entry) .none kV_law_entry dc_law_entry pm_law_entry an_law_entry cd_law_entry ct_law_entry), sl_law_entry⟩)
    (c_law_entry : PySem.W.codeIn K cd_law_entry "_law_entry" = true)
    (k_law_entry : PySem.W.keepIn K (.ref f_law_entry) = true)
    (a_law_line : PySem.W.nsIn K mainGlobals "_law_line" = some (some (.ref f_law_line)))
    (l_law_line : K.lookup f_law_line = some ⟨oc_law_line, od_law_line, .func (PySem.W.fnOf "_law_line" "_law_line" (defArgs s_law_line) (defBody s_law_line) (defScope s_law_line) .none kV_law_line dc_law_line pm_law_line an_law_line cd_law_line ct_law_line), sl_law_line⟩)
    (c_law_line : PySem.W.codeIn K cd_law_line "_law_line" = true)
    (k_law_line : PySem.W.keepIn K (.ref f_law_line) = true)
    (a_law_table : PySem.W.nsIn K mainGlobals "_law_table" = some (some (.ref f_law_table)))
    (l_law_table : K.lookup f_law_table = some ⟨oc_law_table, od_law_table, .func (PySem.W.fnOf "_law_table" "_law_table" (defArgs s_law_table) (defBody s_law_table) (defScope s_law_table) .none kV_law_table dc_law_table pm_law_table an_law_table cd_law_table ct_law_table), sl_law_table⟩)
    (c_law_table : PySem.W.codeIn K cd_law_table "_law_table" = true)
    (k_law_table : PySem.W.keepIn K (.ref f_law_table) = true)
    (a_law_dot : PySem.W.nsIn K mainGlobals "_law_dot" = some (some (.ref f_law_dot)))
    (l_law_dot : K.lookup f_law_dot = some ⟨oc_law_dot, od_law_dot, .func (PySem.W.fnOf "_law_dot" "_law_dot" (defArgs s_law_dot) (defBody s_law_dot) (defScope s_law_dot) .none kV_law_dot dc_law_dot pm_law_dot an_law_dot cd_law_dot ct_law_dot), sl_law_dot⟩)
    (c_law_dot : PySem.W.codeIn K cd_law_dot "_law_dot" = true)
    (k_law_dot : PySem.W.keepIn K (.ref f_law_dot) = true)
    (a_law_applied : PySem.W.nsIn K mainGlobals "_law_applied" = some (some (.ref f_law_applied)))
    (l_law_applied : K.lookup f_law_applied = some ⟨oc_law_applied, od_law_applied, .func (PySem.W.fnOf "_law_applied" "_law_applied" (defArgs s_law_applied) (defBody s_law_applied) (defScope s_law_applied) .none kV_law_applied dc_law_applied pm_law_applied an_law_applied cd_law_applied ct_law_applied), sl_law_applied⟩)
    (c_law_applied : PySem.W.codeIn K cd_law_applied "_law_applied" = true)
    (k_law_applied : PySem.W.keepIn K (.ref f_law_applied) = true)
    (a_law_columns : PySem.W.nsIn K mainGlobals "_law_columns" = some (some (.ref f_law_columns)))
    (l_law_columns : K.lookup f_law_columns = some ⟨oc_law_columns, od_law_columns, .func (PySem.W.fnOf "_law_columns" "_law_columns" (defArgs s_law_columns) (defBody s_law_columns) (defScope s_law_columns) .none kV_law_columns dc_law_columns pm_law_columns an_law_columns cd_law_columns ct_law_columns), sl_law_columns⟩)
    (c_law_columns : PySem.W.codeIn K cd_law_columns "_law_columns" = true)
    (k_law_columns : PySem.W.keepIn K (.ref f_law_columns) = true)
    (a_law_times : PySem.W.nsIn K mainGlobals "_law_times" = some (some (.ref f_law_times)))
    (l_law_times : K.lookup f_law_times = some ⟨oc_law_times, od_law_times, .func (PySem.W.fnOf "_law_times" "_law_times" (defArgs s_law_times) (defBody s_law_times) (defScope s_law_times) .none kV_law_times dc_law_times pm_law_times an_law_times cd_law_times ct_law_times), sl_law_times⟩)
    (c_law_times : PySem.W.codeIn K cd_law_times "_law_times" = true)
    (k_law_times : PySem.W.keepIn K (.ref f_law_times) = true)
    (a_law_still : PySem.W.nsIn K mainGlobals "_law_still" = some (some (.ref f_law_still)))
    (l_law_still : K.lookup f_law_still = some ⟨oc_law_still, od_law_still, .func (PySem.W.fnOf "_law_still" "_law_still" (defArgs s_law_still) (defBody s_law_still) (defScope s_law_still) .none kV_law_still dc_law_still pm_law_still an_law_still cd_law_still ct_law_still), sl_law_still⟩)
    (c_law_still : PySem.W.codeIn K cd_law_still "_law_still" = true)
    (k_law_still : PySem.W.keepIn K (.ref f_law_still) = true)
    (a_law_call : PySem.W.nsIn K mainGlobals "_law_call" = some (some (.ref f_law_call)))
    (l_law_call : K.lookup f_law_call = some ⟨oc_law_call, od_law_call, .func (PySem.W.fnOf "_law_call" "_law_call" (defArgs s_law_call) (defBody s_law_call) (defScope s_law_call) .none kV_law_call dc_law_call pm_law_call an_law_call cd_law_call ct_law_call), sl_law_call⟩)
    (c_law_call : PySem.W.codeIn K cd_law_call "_law_call" = true)
    (k_law_call : PySem.W.keepIn K (.ref f_law_call) = true)
    (a_law_unit : PySem.W.nsIn K mainGlobals "_law_unit" = some (some (.ref f_law_unit)))
    (l_law_unit : K.lookup f_law_unit = some ⟨oc_law_unit, od_law_unit, .func (PySem.W.fnOf "_law_unit" "_law_unit" (defArgs s_law_unit) (defBody s_law_unit) (defScope s_law_unit) .none kV_law_unit dc_law_unit pm_law_unit an_law_unit cd_law_unit ct_law_unit), sl_law_unit⟩)
    (c_law_unit : PySem.W.codeIn K cd_law_unit "_law_unit" = true)
    (k_law_unit : PySem.W.keepIn K (.ref f_law_unit) = true)
    (a_law_units_right : PySem.W.nsIn K mainGlobals "_law_units_right" = some (some (.ref f_law_units_right)))
    (l_law_units_right : K.lookup f_law_units_right = some ⟨oc_law_units_right, od_law_units_right, .func (PySem.W.fnOf "_law_units_right" "_law_units_right" (defArgs s_law_units_right) (defBody s_law_units_right) (defScope s_law_units_right) .none kV_law_units_right dc_law_units_right pm_law_units_right an_law_units_right cd_law_units_right ct_law_units_right), sl_law_units_right⟩)
    (c_law_units_right : PySem.W.codeIn K cd_law_units_right "_law_units_right" = true)
    (k_law_units_right : PySem.W.keepIn K (.ref f_law_units_right) = true)
    (a_law_refused_right : PySem.W.nsIn K mainGlobals "_law_refused_right" = some (some (.ref f_law_refused_right)))
    (l_law_refused_right : K.lookup f_law_refused_right = some ⟨oc_law_refused_right, od_law_refused_right, .func (PySem.W.fnOf "_law_refused_right" "_law_refused_right" (defArgs s_law_refused_right) (defBody s_law_refused_right) (defScope s_law_refused_right) .none kV_law_refused_right dc_law_refused_right pm_law_refused_right an_law_refused_right cd_law_refused_right ct_law_refused_right), sl_law_refused_right⟩)
    (c_law_refused_right : PySem.W.codeIn K cd_law_refused_right "_law_refused_right" = true)
    (k_law_refused_right : PySem.W.keepIn K (.ref f_law_refused_right) = true)
    (a_law_scene_right : PySem.W.nsIn K mainGlobals "_law_scene_right" = some (some (.ref f_law_scene_right)))
    (l_law_scene_right : K.lookup f_law_scene_right = some ⟨oc_law_scene_right, od_law_scene_right, .func (PySem.W.fnOf "_law_scene_right" "_law_scene_right" (defArgs s_law_scene_right) (defBody s_law_scene_right) (defScope s_law_scene_right) .none kV_law_scene_right dc_law_scene_right pm_law_scene_right an_law_scene_right cd_law_scene_right ct_law_scene_right), sl_law_scene_right⟩)
    (c_law_scene_right : PySem.W.codeIn K cd_law_scene_right "_law_scene_right" = true)
    (k_law_scene_right : PySem.W.keepIn K (.ref f_law_scene_right) = true)
    (a_law : PySem.W.nsIn K mainGlobals "law" = some (some (.ref f_law)))
    (l_law : K.lookup f_law = some ⟨oc_law, od_law, .func (PySem.W.fnOf "law" "law" (defArgs s_law) (defBody s_law) (defScope s_law) .none kV_law dc_law pm_law an_law cd_law ct_law), sl_law⟩)
    (c_law : PySem.W.codeIn K cd_law "law" = true)
    (k_law : PySem.W.keepIn K (.ref f_law) = true)
    (z_isinstance : PySem.W.nsIn K mainGlobals "isinstance" = some none)
    (z_int : PySem.W.nsIn K mainGlobals "int" = some none)
    (z_bool : PySem.W.nsIn K mainGlobals "bool" = some none)
    (z_str : PySem.W.nsIn K mainGlobals "str" = some none)
    (z_list : PySem.W.nsIn K mainGlobals "list" = some none)
    (z_tuple : PySem.W.nsIn K mainGlobals "tuple" = some none)
    (z_dict : PySem.W.nsIn K mainGlobals "dict" = some none)
    (z_len : PySem.W.nsIn K mainGlobals "len" = some none)
    (z_all : PySem.W.nsIn K mainGlobals "all" = some none)
    (z_sum : PySem.W.nsIn K mainGlobals "sum" = some none)
    (z_zip : PySem.W.nsIn K mainGlobals "zip" = some none)
    (z_range : PySem.W.nsIn K mainGlobals "range" = some none)
    (z_enumerate : PySem.W.nsIn K mainGlobals "enumerate" = some none)
    (z_abs : PySem.W.nsIn K mainGlobals "abs" = some none)
    (z_max : PySem.W.nsIn K mainGlobals "max" = some none)
    (z_min : PySem.W.nsIn K mainGlobals "min" = some none)
    (g_MOST_WIDE : PySem.W.nsIn K mainGlobals "MOST_WIDE" = some (some (.int 24 tk_MOST_WIDE)))
    (aW : PySem.W.nsIn K mainGlobals "WrapError" = some (some (.ref D)))
    (xW : K.lookup D = some (excClassObj nmD qD D ND bsD PySem.WrX.veTail true snD subD abD colD ddD w0 w1 w2 w3 w5 "ValueError.__new__"))
    (iW : PySem.W.findIn K (.ref D) "__init__" = some (some (.ref fI)))
    (lI : K.lookup fI = some ⟨iOc, iod, .func (PySem.W.ksFn "__init__" "WrapError.__init__" (PySem.WrX.iA p1 p2 p3) (PySem.WrX.iB q1 q2 q3 q4 q5 q6 q7 q8 q9 q10) PySem.WrX.iS (.ref Td) ikV idoc ipm ian (.ref cda) ict cc), iosl⟩)
    (cI : PySem.W.codeIn K (.ref cda) "WrapError.__init__" = true)
    (lcd : K.lookup cda = some ⟨ccl, cdd, .fields vs, ccs⟩)
    (hvs : vs[2]? = some (.str file tf))
    (hfile : ((P.main.file : Str) == file) = true)
    (lcc : K.lookup cc = some ⟨cl, cld, .cell (some (.ref D)), csl⟩)
    (lT : K.lookup Td = some ⟨tc, td, .seq #[.none] nT, tsl⟩)
    (hline : (q3.endLine == q5.line) = true)
    (mS : PySem.W.nsIn K mainGlobals "super" = some none)
    (top_ : (P.main.scope.names.lookup ("super" : Str)).isSome = false)
    (any_ : PySem.W.nsIn K cStatics "thirdparty.any" = some none)
    (a_InvalidLine : PySem.W.nsIn K mainGlobals "InvalidLine" = some (some (.ref C_InvalidLine)))
    (x_InvalidLine : K.lookup C_InvalidLine = some (excClassObj nm_InvalidLine q_InvalidLine C_InvalidLine N_InvalidLine bs_InvalidLine (.ref D :: PySem.WrX.veTail) true sn_InvalidLine su_InvalidLine ab_InvalidLine col_InvalidLine dd_InvalidLine u0_InvalidLine u1_InvalidLine u2_InvalidLine u3_InvalidLine u5_InvalidLine "ValueError.__new__"))
    (sa_InvalidLine : PySem.W.findIn K (.ref C_InvalidLine) "__setattr__" = some (some (.builtin "object.__setattr__")))
    (nn_InvalidLine : PySem.W.findIn K (.ref C_InvalidLine) "given" = some none)
    (ii_InvalidLine : PySem.W.findIn K (.ref C_InvalidLine) "__init__" = some (some (.ref fI)))
    (kc_InvalidLine : PySem.W.keepIn K (.ref C_InvalidLine) = true)
    (se_InvalidLine : PySem.W.subIn K (.ref C_InvalidLine) (.type "BaseException") = some true)
    (sv_InvalidLine : PySem.W.subIn K (.ref C_InvalidLine) (.type "ValueError") = some true)
    (ty_InvalidLine : PySem.W.typeIn K (.ref C_InvalidLine) = some (.type "type"))
    (ne_InvalidLine : C_InvalidLine ≠ D)
    (ga_InvalidLine : PySem.W.findIn K (.ref C_InvalidLine) "__getattribute__" = some (some (.builtin "BaseException.__getattribute__")))
    (gg_InvalidLine : PySem.W.findIn K (.ref C_InvalidLine) "__getattr__" = some none)
    (hd_InvalidLine : PySem.W.hasDictIn K C_InvalidLine = true)
    (ic_InvalidLine : PySem.W.isClsIn K C_InvalidLine = true)
    (a_InvalidTable : PySem.W.nsIn K mainGlobals "InvalidTable" = some (some (.ref C_InvalidTable)))
    (x_InvalidTable : K.lookup C_InvalidTable = some (excClassObj nm_InvalidTable q_InvalidTable C_InvalidTable N_InvalidTable bs_InvalidTable (.ref D :: PySem.WrX.veTail) true sn_InvalidTable su_InvalidTable ab_InvalidTable col_InvalidTable dd_InvalidTable u0_InvalidTable u1_InvalidTable u2_InvalidTable u3_InvalidTable u5_InvalidTable "ValueError.__new__"))
    (sa_InvalidTable : PySem.W.findIn K (.ref C_InvalidTable) "__setattr__" = some (some (.builtin "object.__setattr__")))
    (nn_InvalidTable : PySem.W.findIn K (.ref C_InvalidTable) "given" = some none)
    (ii_InvalidTable : PySem.W.findIn K (.ref C_InvalidTable) "__init__" = some (some (.ref fI)))
    (kc_InvalidTable : PySem.W.keepIn K (.ref C_InvalidTable) = true)
    (se_InvalidTable : PySem.W.subIn K (.ref C_InvalidTable) (.type "BaseException") = some true)
    (sv_InvalidTable : PySem.W.subIn K (.ref C_InvalidTable) (.type "ValueError") = some true)
    (ty_InvalidTable : PySem.W.typeIn K (.ref C_InvalidTable) = some (.type "type"))
    (ne_InvalidTable : C_InvalidTable ≠ D)
    (ga_InvalidTable : PySem.W.findIn K (.ref C_InvalidTable) "__getattribute__" = some (some (.builtin "BaseException.__getattribute__")))
    (gg_InvalidTable : PySem.W.findIn K (.ref C_InvalidTable) "__getattr__" = some none)
    (hd_InvalidTable : PySem.W.hasDictIn K C_InvalidTable = true)
    (ic_InvalidTable : PySem.W.isClsIn K C_InvalidTable = true)
    (tI : PySem.W.typeIn K (.ref fI) = some (.type "function"))
    (s_InvalidLine_InvalidLine : PySem.W.subIn K (.ref C_InvalidLine) (.ref C_InvalidLine) = some true)
    (s_InvalidLine_InvalidTable : PySem.W.subIn K (.ref C_InvalidLine) (.ref C_InvalidTable) = some false)
    (s_InvalidTable_InvalidLine : PySem.W.subIn K (.ref C_InvalidTable) (.ref C_InvalidLine) = some false)
    (s_InvalidTable_InvalidTable : PySem.W.subIn K (.ref C_InvalidTable) (.ref C_InvalidTable) = some true) :
    ∃ fd : FuncData, (∀ (s : Shared) (v : Value), BindsTo s fd ⟨[v], []⟩ [("script", v)]) ∧ ∀ base : Heap, K.In base → base.Ns mainGlobals mg → FnOk P w K mg base (L2.CX P w) 15 fa fd ["script"] (sp_law K) := by
  have e := hfa.symm.trans (PySem.W.mg_of X G a_law)
  cases e
  have F_is_whole := fun_mk (st := s_is_whole) l_is_whole c_is_whole k_is_whole
  have b_is_whole := F_is_whole.binds (ps := ["value"]) fun _ _ _ _ _ _ us hl => match us, hl with | [_], _ => rfl
  have F_is_line_of := fun_mk (st := s_is_line_of) l_is_line_of c_is_line_of k_is_line_of
  have b_is_line_of := F_is_line_of.binds (ps := ["value", "width"]) fun _ _ _ _ _ _ us hl => match us, hl with | [_, _], _ => rfl
  have F_is_line := fun_mk (st := s_is_line) l_is_line c_is_line k_is_line
  have b_is_line := F_is_line.binds (ps := ["value"]) fun _ _ _ _ _ _ us hl => match us, hl with | [_], _ => rfl
  have F_is_table := fun_mk (st := s_is_table) l_is_table c_is_table k_is_table
  have b_is_table := F_is_table.binds (ps := ["value"]) fun _ _ _ _ _ _ us hl => match us, hl with | [_], _ => rfl
  have F_check_table := fun_mk (st := s_check_table) l_check_table c_check_table k_check_table
  have b_check_table := F_check_table.binds (ps := ["table"]) fun _ _ _ _ _ _ us hl => match us, hl with | [_], _ => rfl
  have F_dotted := fun_mk (st := s_dotted) l_dotted c_dotted k_dotted
  have b_dotted := F_dotted.binds (ps := ["one", "other"]) fun _ _ _ _ _ _ us hl => match us, hl with | [_, _], _ => rfl
  have F_applied_to := fun_mk (st := s_applied_to) l_applied_to c_applied_to k_applied_to
  have b_applied_to := F_applied_to.binds (ps := ["table", "line"]) fun _ _ _ _ _ _ us hl => match us, hl with | [_, _], _ => rfl
  have F_turned_of := fun_mk (st := s_turned_of) l_turned_of c_turned_of k_turned_of
  have b_turned_of := F_turned_of.binds (ps := ["table", "width"]) fun _ _ _ _ _ _ us hl => match us, hl with | [_, _], _ => rfl
  have F_mixed_of := fun_mk (st := s_mixed_of) l_mixed_of c_mixed_of k_mixed_of
  have b_mixed_of := F_mixed_of.binds (ps := ["shares", "table", "width"]) fun _ _ _ _ _ _ us hl => match us, hl with | [_, _, _], _ => rfl
  have F_times_of := fun_mk (st := s_times_of) l_times_of c_times_of k_times_of
  have b_times_of := F_times_of.binds (ps := ["one", "other", "width"]) fun _ _ _ _ _ _ us hl => match us, hl with | [_, _, _], _ => rfl
  have F_unit_table := fun_mk (st := s_unit_table) l_unit_table c_unit_table k_unit_table
  have b_unit_table := F_unit_table.binds (ps := ["many"]) fun _ _ _ _ _ _ us hl => match us, hl with | [_], _ => rfl
  have F_dot := fun_mk (st := s_dot) l_dot c_dot k_dot
  have b_dot := F_dot.binds (ps := ["one", "other"]) fun _ _ _ _ _ _ us hl => match us, hl with | [_, _], _ => rfl
  have F_applied := fun_mk (st := s_applied) l_applied c_applied k_applied
  have b_applied := F_applied.binds (ps := ["table", "line"]) fun _ _ _ _ _ _ us hl => match us, hl with | [_, _], _ => rfl
  have F_times := fun_mk (st := s_times) l_times c_times k_times
  have b_times := F_times.binds (ps := ["one", "other"]) fun _ _ _ _ _ _ us hl => match us, hl with | [_, _], _ => rfl
  have F_turned := fun_mk (st := s_turned) l_turned c_turned k_turned
  have b_turned := F_turned.binds (ps := ["table"]) fun _ _ _ _ _ _ us hl => match us, hl with | [_], _ => rfl
  have F_is_unit := fun_mk (st := s_is_unit) l_is_unit c_is_unit k_is_unit
  have b_is_unit := F_is_unit.binds (ps := ["table"]) fun _ _ _ _ _ _ us hl => match us, hl with | [_], _ => rfl
  have F_law_box := fun_mk (st := s_law_box) l_law_box c_law_box k_law_box
  have b_law_box := F_law_box.binds (ps := ["great"]) fun _ _ _ _ _ _ us hl => match us, hl with | [_], _ => rfl
  have F_law_take := fun_mk (st := s_law_take) l_law_take c_law_take k_law_take
  have b_law_take := F_law_take.binds (ps := ["box", "many"]) fun _ _ _ _ _ _ us hl => match us, hl with | [_, _], _ => rfl
  have F_law_cell := fun_mk (st := s_law_cell) l_law_cell c_law_cell k_law_cell
  have b_law_cell := F_law_cell.binds (ps := ["script", "k"]) fun _ _ _ _ _ _ us hl => match us, hl with | [_, _], _ => rfl
  have F_law_same := fun_mk (st := s_law_same) l_law_same c_law_same k_law_same
  have b_law_same := F_law_same.binds (ps := ["told", "due"]) fun _ _ _ _ _ _ us hl => match us, hl with | [_, _], _ => rfl
  have F_law_entry := fun_mk (st := s_law_entry) l_law_entry c_law_entry k_law_entry
  have b_law_entry := F_law_entry.binds (ps := ["box"]) fun _ _ _ _ _ _ us hl => match us, hl with | [_], _ => rfl
  have F_law_line := fun_mk (st := s_law_line) l_law_line c_law_line k_law_line
  have b_law_line := F_law_line.binds (ps := ["box", "width"]) fun _ _ _ _ _ _ us hl => match us, hl with | [_, _], _ => rfl
  have F_law_table := fun_mk (st := s_law_table) l_law_table c_law_table k_law_table
  have b_law_table := F_law_table.binds (ps := ["box", "height", "width"]) fun _ _ _ _ _ _ us hl => match us, hl with | [_, _, _], _ => rfl
  have F_law_dot := fun_mk (st := s_law_dot) l_law_dot c_law_dot k_law_dot
  have b_law_dot := F_law_dot.binds (ps := ["one", "other"]) fun _ _ _ _ _ _ us hl => match us, hl with | [_, _], _ => rfl
  have F_law_applied := fun_mk (st := s_law_applied) l_law_applied c_law_applied k_law_applied
  have b_law_applied := F_law_applied.binds (ps := ["table", "line"]) fun _ _ _ _ _ _ us hl => match us, hl with | [_, _], _ => rfl
  have F_law_columns := fun_mk (st := s_law_columns) l_law_columns c_law_columns k_law_columns
  have b_law_columns := F_law_columns.binds (ps := ["table"]) fun _ _ _ _ _ _ us hl => match us, hl with | [_], _ => rfl
  have F_law_times := fun_mk (st := s_law_times) l_law_times c_law_times k_law_times
  have b_law_times := F_law_times.binds (ps := ["one", "other"]) fun _ _ _ _ _ _ us hl => match us, hl with | [_, _], _ => rfl
  have F_law_still := fun_mk (st := s_law_still) l_law_still c_law_still k_law_still
  have b_law_still := F_law_still.binds (ps := ["told", "due"]) fun _ _ _ _ _ _ us hl => match us, hl with | [_, _], _ => rfl
  have F_law_call := fun_mk (st := s_law_call) l_law_call c_law_call k_law_call
  have b_law_call := F_law_call.binds (ps := ["which", "a", "named"]) fun _ _ _ _ _ _ us hl => match us, hl with | [_, _, _], _ => rfl
  have F_law_unit := fun_mk (st := s_law_unit) l_law_unit c_law_unit k_law_unit
  have b_law_unit := F_law_unit.binds (ps := ["many"]) fun _ _ _ _ _ _ us hl => match us, hl with | [_], _ => rfl
  have F_law_units_right := fun_mk (st := s_law_units_right) l_law_units_right c_law_units_right k_law_units_right
  have b_law_units_right := F_law_units_right.binds (ps := ["box", "named"]) fun _ _ _ _ _ _ us hl => match us, hl with | [_, _], _ => rfl
  have F_law_refused_right := fun_mk (st := s_law_refused_right) l_law_refused_right c_law_refused_right k_law_refused_right
  have b_law_refused_right := F_law_refused_right.binds (ps := ["box", "table", "line", "named"]) fun _ _ _ _ _ _ us hl => match us, hl with | [_, _, _, _], _ => rfl
  have F_law_scene_right := fun_mk (st := s_law_scene_right) l_law_scene_right c_law_scene_right k_law_scene_right
  have b_law_scene_right := F_law_scene_right.binds (ps := ["box", "named"]) fun _ _ _ _ _ _ us hl => match us, hl with | [_, _], _ => rfl
  have F_law := fun_mk (st := s_law) l_law c_law k_law
  have b_law := F_law.binds (ps := ["script"]) fun _ _ _ _ _ _ us hl => match us, hl with | [_], _ => rfl
  have B_turned := F_turned.kb (ps := ["table"]) (ks := ["table"]) fun _ _ _ _ _ _ us hl => match us, hl with | [_], _ => rfl
  have B_is_unit := F_is_unit.kb (ps := ["table"]) (ks := ["table"]) fun _ _ _ _ _ _ us hl => match us, hl with | [_], _ => rfl
  have B_dot := F_dot.kbR (ps := ["one", "other"]) (ks := ["other", "one"]) fun _ _ _ _ _ _ us hl => match us, hl with | [_, _], _ => rfl
  have B_applied := F_applied.kbR (ps := ["table", "line"]) (ks := ["line", "table"]) fun _ _ _ _ _ _ us hl => match us, hl with | [_, _], _ => rfl
  have B_times := F_times.kbR (ps := ["one", "other"]) (ks := ["other", "one"]) fun _ _ _ _ _ _ us hl => match us, hl with | [_, _], _ => rfl
  let T : Tx P K mg := {
    a_is_whole := f_is_whole, f_is_whole := _, F_is_whole := F_is_whole, D_is_whole := ⟨PySem.W.mg_of X G a_is_whole, k_is_whole, b_is_whole⟩,
    a_is_line_of := f_is_line_of, f_is_line_of := _, F_is_line_of := F_is_line_of, D_is_line_of := ⟨PySem.W.mg_of X G a_is_line_of, k_is_line_of, b_is_line_of⟩,
    a_is_line := f_is_line, f_is_line := _, F_is_line := F_is_line, D_is_line := ⟨PySem.W.mg_of X G a_is_line, k_is_line, b_is_line⟩,
    a_is_table := f_is_table, f_is_table := _, F_is_table := F_is_table, D_is_table := ⟨PySem.W.mg_of X G a_is_table, k_is_table, b_is_table⟩,
    a_check_table := f_check_table, f_check_table := _, F_check_table := F_check_table, D_check_table := ⟨PySem.W.mg_of X G a_check_table, k_check_table, b_check_table⟩,
    a_dotted := f_dotted, f_dotted := _, F_dotted := F_dotted, D_dotted := ⟨PySem.W.mg_of X G a_dotted, k_dotted, b_dotted⟩,
    a_applied_to := f_applied_to, f_applied_to := _, F_applied_to := F_applied_to, D_applied_to := ⟨PySem.W.mg_of X G a_applied_to, k_applied_to, b_applied_to⟩,
    a_turned_of := f_turned_of, f_turned_of := _, F_turned_of := F_turned_of, D_turned_of := ⟨PySem.W.mg_of X G a_turned_of, k_turned_of, b_turned_of⟩,
    a_mixed_of := f_mixed_of, f_mixed_of := _, F_mixed_of := F_mixed_of, D_mixed_of := ⟨PySem.W.mg_of X G a_mixed_of, k_mixed_of, b_mixed_of⟩,
    a_times_of := f_times_of, f_times_of := _, F_times_of := F_times_of, D_times_of := ⟨PySem.W.mg_of X G a_times_of, k_times_of, b_times_of⟩,
    a_unit_table := f_unit_table, f_unit_table := _, F_unit_table := F_unit_table, D_unit_table := ⟨PySem.W.mg_of X G a_unit_table, k_unit_table, b_unit_table⟩,
    a_dot := f_dot, f_dot := _, F_dot := F_dot, D_dot := ⟨PySem.W.mg_of X G a_dot, k_dot, b_dot⟩,
    a_applied := f_applied, f_applied := _, F_applied := F_applied, D_applied := ⟨PySem.W.mg_of X G a_applied, k_applied, b_applied⟩,
    a_times := f_times, f_times := _, F_times := F_times, D_times := ⟨PySem.W.mg_of X G a_times, k_times, b_times⟩,
    a_turned := f_turned, f_turned := _, F_turned := F_turned, D_turned := ⟨PySem.W.mg_of X G a_turned, k_turned, b_turned⟩,
    a_is_unit := f_is_unit, f_is_unit := _, F_is_unit := F_is_unit, D_is_unit := ⟨PySem.W.mg_of X G a_is_unit, k_is_unit, b_is_unit⟩,
    a_law_box := f_law_box, f_law_box := _, F_law_box := F_law_box, D_law_box := ⟨PySem.W.mg_of X G a_law_box, k_law_box, b_law_box⟩,
    a_law_take := f_law_take, f_law_take := _, F_law_take := F_law_take, D_law_take := ⟨PySem.W.mg_of X G a_law_take, k_law_take, b_law_take⟩,
    a_law_cell := f_law_cell, f_law_cell := _, F_law_cell := F_law_cell, D_law_cell := ⟨PySem.W.mg_of X G a_law_cell, k_law_cell, b_law_cell⟩,
    a_law_same := f_law_same, f_law_same := _, F_law_same := F_law_same, D_law_same := ⟨PySem.W.mg_of X G a_law_same, k_law_same, b_law_same⟩,
    a_law_entry := f_law_entry, f_law_entry := _, F_law_entry := F_law_entry, D_law_entry := ⟨PySem.W.mg_of X G a_law_entry, k_law_entry, b_law_entry⟩,
    a_law_line := f_law_line, f_law_line := _, F_law_line := F_law_line, D_law_line := ⟨PySem.W.mg_of X G a_law_line, k_law_line, b_law_line⟩,
    a_law_table := f_law_table, f_law_table := _, F_law_table := F_law_table, D_law_table := ⟨PySem.W.mg_of X G a_law_table, k_law_table, b_law_table⟩,
    a_law_dot := f_law_dot, f_law_dot := _, F_law_dot := F_law_dot, D_law_dot := ⟨PySem.W.mg_of X G a_law_dot, k_law_dot, b_law_dot⟩,
    a_law_applied := f_law_applied, f_law_applied := _, F_law_applied := F_law_applied, D_law_applied := ⟨PySem.W.mg_of X G a_law_applied, k_law_applied, b_law_applied⟩,
    a_law_columns := f_law_columns, f_law_columns := _, F_law_columns := F_law_columns, D_law_columns := ⟨PySem.W.mg_of X G a_law_columns, k_law_columns, b_law_columns⟩,
    a_law_times := f_law_times, f_law_times := _, F_law_times := F_law_times, D_law_times := ⟨PySem.W.mg_of X G a_law_times, k_law_times, b_law_times⟩,
    a_law_still := f_law_still, f_law_still := _, F_law_still := F_law_still, D_law_still := ⟨PySem.W.mg_of X G a_law_still, k_law_still, b_law_still⟩,
    a_law_call := f_law_call, f_law_call := _, F_law_call := F_law_call, D_law_call := ⟨PySem.W.mg_of X G a_law_call, k_law_call, b_law_call⟩,
    a_law_unit := f_law_unit, f_law_unit := _, F_law_unit := F_law_unit, D_law_unit := ⟨PySem.W.mg_of X G a_law_unit, k_law_unit, b_law_unit⟩,
    a_law_units_right := f_law_units_right, f_law_units_right := _, F_law_units_right := F_law_units_right, D_law_units_right := ⟨PySem.W.mg_of X G a_law_units_right, k_law_units_right, b_law_units_right⟩,
    a_law_refused_right := f_law_refused_right, f_law_refused_right := _, F_law_refused_right := F_law_refused_right, D_law_refused_right := ⟨PySem.W.mg_of X G a_law_refused_right, k_law_refused_right, b_law_refused_right⟩,
    a_law_scene_right := f_law_scene_right, f_law_scene_right := _, F_law_scene_right := F_law_scene_right, D_law_scene_right := ⟨PySem.W.mg_of X G a_law_scene_right, k_law_scene_right, b_law_scene_right⟩,
    a_law := fa, f_law := _, F_law := F_law, D_law := ⟨PySem.W.mg_of X G a_law, k_law, b_law⟩,
    m_isinstance := PySem.W.mg_none_of X G z_isinstance,
    m_int := PySem.W.mg_none_of X G z_int,
    m_bool := PySem.W.mg_none_of X G z_bool,
    m_str := PySem.W.mg_none_of X G z_str,
    m_list := PySem.W.mg_none_of X G z_list,
    m_tuple := PySem.W.mg_none_of X G z_tuple,
    m_dict := PySem.W.mg_none_of X G z_dict,
    m_len := PySem.W.mg_none_of X G z_len,
    m_all := PySem.W.mg_none_of X G z_all,
    m_sum := PySem.W.mg_none_of X G z_sum,
    m_zip := PySem.W.mg_none_of X G z_zip,
    m_range := PySem.W.mg_none_of X G z_range,
    m_enumerate := PySem.W.mg_none_of X G z_enumerate,
    m_abs := PySem.W.mg_none_of X G z_abs,
    m_max := PySem.W.mg_none_of X G z_max,
    m_min := PySem.W.mg_none_of X G z_min,
    g_MOST_WIDE := ⟨_, PySem.W.mg_of X G g_MOST_WIDE⟩,
    B_turned := B_turned,
    B_is_unit := B_is_unit,
    B_dot := B_dot,
    B_applied := B_applied,
    B_times := B_times,
    aW := D, fW := fI, base := ⟨⟨_, _, Td, _, _, _, _, cda, cc, _, _, _, _, _, _, _, _, _, _, _, _, _, _, _, _, _, _, _, vs, _, _, file, tf, _, _, nT, _, lI, cI, lcd, hvs, hfile, lcc, lT, hline⟩, ⟨_, by unfold PySem.W.clsIn; rw [xW] <;> rfl⟩, PySem.W.mg_none_of X G mS, top_, any_⟩,
    a_InvalidLine := C_InvalidLine, c_InvalidLine := ⟨PySem.W.mg_of X G a_InvalidLine, ⟨_, _, _, _, _, _, _, _, _, _, _, _, _, _, x_InvalidLine⟩, sa_InvalidLine, nn_InvalidLine, ii_InvalidLine, tI, kc_InvalidLine, se_InvalidLine, sv_InvalidLine, ty_InvalidLine, ne_InvalidLine⟩, x_InvalidLine := ⟨ga_InvalidLine, gg_InvalidLine, se_InvalidLine, hd_InvalidLine⟩,
    a_InvalidTable := C_InvalidTable, c_InvalidTable := ⟨PySem.W.mg_of X G a_InvalidTable, ⟨_, _, _, _, _, _, _, _, _, _, _, _, _, _, x_InvalidTable⟩, sa_InvalidTable, nn_InvalidTable, ii_InvalidTable, tI, kc_InvalidTable, se_InvalidTable, sv_InvalidTable, ty_InvalidTable, ne_InvalidTable⟩, x_InvalidTable := ⟨ga_InvalidTable, gg_InvalidTable, se_InvalidTable, hd_InvalidTable⟩,
    e_InvalidLine_InvalidLine := exm_of se_InvalidLine se_InvalidLine ic_InvalidLine ty_InvalidLine s_InvalidLine_InvalidLine,
    e_InvalidLine_InvalidTable := exm_of se_InvalidLine se_InvalidTable ic_InvalidTable ty_InvalidTable s_InvalidLine_InvalidTable,
    e_InvalidTable_InvalidLine := exm_of se_InvalidTable se_InvalidLine ic_InvalidLine ty_InvalidLine s_InvalidTable_InvalidLine,
    e_InvalidTable_InvalidTable := exm_of se_InvalidTable se_InvalidTable ic_InvalidTable ty_InvalidTable s_InvalidTable_InvalidTable }
  exact ⟨PySem.W.fnOf "law" "law" (defArgs s_law) (defBody s_law) (defScope s_law) .none kV_law dc_law pm_law an_law cd_law ct_law, fun s v => .of_eq rfl, fun base _ _ => by
    have z := ok_law (w := w) (base := base) T
    exact z⟩
theorem sp_law_ok {K : PySem.W.Frag} {H : Hp} {a : Addr} {ns : List Int} (hO : Only H) (hS : SqL K H a (ns.map V.int)) : sp_law K [.ref a] H (fun v _ => v = .bl true) fun _ _ _ => False := by
  have hF : SqF K H a (ns.map V.int) := by
    rcases hS with (h | h) | h
    · rcases hO a with z | ⟨o, xs, z⟩
      · rw [z] at h; cases h
      · rw [z] at h; cases h
    · exact .inl h
    · exact .inr h
  exact ⟨fun _ => False, fun _ => False, ns, fun _ z => z, fun _ z => z.elim, fun _ z => z.elim, trivial, ⟨⟨a, rfl, hF⟩, True.intro⟩, fun v H' _ z => by cases z; rfl⟩
theorem walk {l : PySem.W.OpenLaw} {n : Nat} {q : Program} {loose : List Str} {XP : (Str → Option Value) → Heap → Prop} {YP : World → Heap → Prop} {d : DefRec} {K : Params → PySem.W.Frag} (hn : l.most = some n) (hn2 : n ≤ sizeLine) (hdf : d.params.defaults = [])
    (hY : ∀ (w : World) (h : Heap), YP w h → (K w.params).In h)
    (F : ∀ (w : World) (mg : Str → Option Value) (fa : Addr) (h : Heap), (K w.params).In h → h.Ns mainGlobals mg → mg d.name = some (.ref fa) →
      ∃ fd : FuncData, (∀ (s : Shared) (u : Value), BindsTo s fd ⟨[u], []⟩ [("script", u)]) ∧ ∀ base : Heap, (K w.params).In base → base.Ns mainGlobals mg → FnOk l.prog w (K w.params) mg base (L2.CX l.prog w) 15 fa fd ["script"] (sp_law (K w.params))) :
    PySem.W.WalkO q loose XP YP l.row.toRowW d [] (fun f vs => PySem.call f vs) :=
  L2.walk_of (n := n) (k := 15) (x := "script") (CX := fun w => L2.CX l.prog w) (sp := fun w => sp_law (K w.params)) hn hn2 hdf ⟨rfl, by decide, by decide⟩ hY F (fun _ _ a ns hl hO hS => sp_law_ok hO hS) fun _ _ _ _ _ z => by
    obtain ⟨_, _, _, _, _, _, _, _, _, _, _, _, z⟩ := z
    exact z.elim
end
end Lk03
open PySem PySem.W PyProof.Rows
set_option maxRecDepth 100000 in
set_option maxHeartbeats 0 in
theorem PySem.Challenge.cw_everywrap_k03_lines_and_tables_holds : PySem.Challenge.rw_everywrap_k03_lines_and_tables.Holds := by
  w_on; o_law; k_head; (case hw => w_witness2)
  k_fill
  refine Lk03.walk (l := PySem.Challenge.rw_everywrap_k03_lines_and_tables) rfl (by decide) rfl (fun w h Y => PySem.W.kIn_of Y) ?F
  case F =>
    intro w mg fa h KX G hmg
    refine' Lk03.all_mk KX G hmg ?a_is_whole ?l_is_whole ?c_is_whole ?k_is_whole ?a_is_line_of ?l_is_line_of ?c_is_line_of ?k_is_line_of ?a_is_line ?l_is_line ?c_is_line ?k_is_line ?a_is_table ?l_is_table ?c_is_table ?k_is_table ?a_check_table ?l_check_table ?c_check_table ?k_check_table ?a_dotted ?l_dotted ?c_dotted ?k_dotted ?a_applied_to ?l_applied_to ?c_applied_to ?k_applied_to ?a_turned_of ?l_turned_of ?c_turned_of ?k_turned_of ?a_mixed_of ?l_mixed_of ?c_mixed_of ?k_mixed_of ?a_times_of ?l_times_of ?c_times_of ?k_times_of ?a_unit_table ?l_unit_table ?c_unit_table ?k_unit_table ?a_dot ?l_dot ?c_dot ?k_dot ?a_applied ?l_applied ?c_applied ?k_applied ?a_times ?l_times ?c_times ?k_times ?a_turned ?l_turned ?c_turned ?k_turned ?a_is_unit ?l_is_unit ?c_is_unit ?k_is_unit ?a_law_box ?l_law_box ?c_law_box ?k_law_box ?a_law_take ?l_law_take ?c_law_take ?k_law_take ?a_law_cell ?l_law_cell ?c_law_cell ?k_law_cell ?a_law_same ?l_law_same ?c_law_same ?k_law_same ?a_law_entry ?l_law_entry ?c_law_entry ?k_law_entry ?a_law_line ?l_law_line ?c_law_line ?k_law_line ?a_law_table ?l_law_table ?c_law_table ?k_law_table ?a_law_dot ?l_law_dot ?c_law_dot ?k_law_dot ?a_law_applied ?l_law_applied ?c_law_applied ?k_law_applied ?a_law_columns ?l_law_columns ?c_law_columns ?k_law_columns ?a_law_times ?l_law_times ?c_law_times ?k_law_times ?a_law_still ?l_law_still ?c_law_still ?k_law_still ?a_law_call ?l_law_call ?c_law_call ?k_law_call ?a_law_unit ?l_law_unit ?c_law_unit ?k_law_unit ?a_law_units_right ?l_law_units_right ?c_law_units_right ?k_law_units_right ?a_law_refused_right ?l_law_refused_right ?c_law_refused_right ?k_law_refused_right ?a_law_scene_right ?l_law_scene_right ?c_law_scene_right ?k_law_scene_right ?a_law ?l_law ?c_law ?k_law ?z_isinstance ?z_int ?z_bool ?z_str ?z_list ?z_tuple ?z_dict ?z_len ?z_all ?z_sum ?z_zip ?z_range ?z_enumerate ?z_abs ?z_max ?z_min ?g_MOST_WIDE ?aW ?xW ?iW ?lI ?cI ?lcd ?hvs ?hfile ?lcc ?lT ?hline ?mS ?top_ ?any_ ?a_InvalidLine ?x_InvalidLine ?sa_InvalidLine ?nn_InvalidLine ?ii_InvalidLine ?kc_InvalidLine ?se_InvalidLine ?sv_InvalidLine ?ty_InvalidLine ?ne_InvalidLine ?ga_InvalidLine ?gg_InvalidLine ?hd_InvalidLine ?ic_InvalidLine ?a_InvalidTable ?x_InvalidTable ?sa_InvalidTable ?nn_InvalidTable ?ii_InvalidTable ?kc_InvalidTable ?se_InvalidTable ?sv_InvalidTable ?ty_InvalidTable ?ne_InvalidTable ?ga_InvalidTable ?gg_InvalidTable ?hd_InvalidTable ?ic_InvalidTable ?tI ?s_InvalidLine_InvalidLine ?s_InvalidLine_InvalidTable ?s_InvalidTable_InvalidLine ?s_InvalidTable_InvalidTable
    (case a_is_whole => k_is)
    (case l_is_whole => k_is)
    (case c_is_whole => k_is)
    (case k_is_whole => k_is)
    (case a_is_line_of => k_is)
    (case l_is_line_of => k_is)
    (case c_is_line_of => k_is)
    (case k_is_line_of => k_is)
    (case a_is_line => k_is)
    (case l_is_line => k_is)
    (case c_is_line => k_is)
    (case k_is_line => k_is)
    (case a_is_table => k_is)
    (case l_is_table => k_is)
    (case c_is_table => k_is)
    (case k_is_table => k_is)
    (case a_check_table => k_is)
    (case l_check_table => k_is)
    (case c_check_table => k_is)
    (case k_check_table => k_is)
    (case a_dotted => k_is)
    (case l_dotted => k_is)
    (case c_dotted => k_is)
    (case k_dotted => k_is)
    (case a_applied_to => k_is)
    (case l_applied_to => k_is)
    (case c_applied_to => k_is)
    (case k_applied_to => k_is)
    (case a_turned_of => k_is)
    (case l_turned_of => k_is)
    (case c_turned_of => k_is)
    (case k_turned_of => k_is)
    (case a_mixed_of => k_is)
    (case l_mixed_of => k_is)
    (case c_mixed_of => k_is)
    (case k_mixed_of => k_is)
    (case a_times_of => k_is)
    (case l_times_of => k_is)
    (case c_times_of => k_is)
    (case k_times_of => k_is)
    (case a_unit_table => k_is)
    (case l_unit_table => k_is)
    (case c_unit_table => k_is)
    (case k_unit_table => k_is)
    (case a_dot => k_is)
    (case l_dot => k_is)
    (case c_dot => k_is)
    (case k_dot => k_is)
    (case a_applied => k_is)
    (case l_applied => k_is)
    (case c_applied => k_is)
    (case k_applied => k_is)
    (case a_times => k_is)
    (case l_times => k_is)
    (case c_times => k_is)
    (case k_times => k_is)
    (case a_turned => k_is)
    (case l_turned => k_is)
    (case c_turned => k_is)
    (case k_turned => k_is)
    (case a_is_unit => k_is)
    (case l_is_unit => k_is)
    (case c_is_unit => k_is)
    (case k_is_unit => k_is)
    (case a_law_box => k_is)
    (case l_law_box => k_is)
    (case c_law_box => k_is)
    (case k_law_box => k_is)
    (case a_law_take => k_is)
    (case l_law_take => k_is)
    (case c_law_take => k_is)
    (case k_law_take => k_is)
    (case a_law_cell => k_is)
    (case l_law_cell => k_is)
    (case c_law_cell => k_is)
    (case k_law_cell => k_is)
    (case a_law_same => k_is)
    (case l_law_same => k_is)
    (case c_law_same => k_is)
    (case k_law_same => k_is)
    (case a_law_entry => k_is)
    (case l_law_entry => k_is)
    (case c_law_entry => k_is)
    (case k_law_entry => k_is)
    (case a_law_line => k_is)
    (case l_law_line => k_is)
    (case c_law_line => k_is)
    (case k_law_line => k_is)
    (case a_law_table => k_is)
    (case l_law_table => k_is)
    (case c_law_table => k_is)
    (case k_law_table => k_is)
    (case a_law_dot => k_is)
    (case l_law_dot => k_is)
    (case c_law_dot => k_is)
    (case k_law_dot => k_is)
    (case a_law_applied => k_is)
    (case l_law_applied => k_is)
    (case c_law_applied => k_is)
    (case k_law_applied => k_is)
    (case a_law_columns => k_is)
    (case l_law_columns => k_is)
    (case c_law_columns => k_is)
    (case k_law_columns => k_is)
    (case a_law_times => k_is)
    (case l_law_times => k_is)
    (case c_law_times => k_is)
    (case k_law_times => k_is)
    (case a_law_still => k_is)
    (case l_law_still => k_is)
    (case c_law_still => k_is)
    (case k_law_still => k_is)
    (case a_law_call => k_is)
    (case l_law_call => k_is)
    (case c_law_call => k_is)
    (case k_law_call => k_is)
    (case a_law_unit => k_is)
    (case l_law_unit => k_is)
    (case c_law_unit => k_is)
    (case k_law_unit => k_is)
    (case a_law_units_right => k_is)
    (case l_law_units_right => k_is)
    (case c_law_units_right => k_is)
    (case k_law_units_right => k_is)
    (case a_law_refused_right => k_is)
    (case l_law_refused_right => k_is)
    (case c_law_refused_right => k_is)
    (case k_law_refused_right => k_is)
    (case a_law_scene_right => k_is)
    (case l_law_scene_right => k_is)
    (case c_law_scene_right => k_is)
    (case k_law_scene_right => k_is)
    (case a_law => k_is)
    (case l_law => k_is)
    (case c_law => k_is)
    (case k_law => k_is)
    (case z_isinstance => k_is)
    (case z_int => k_is)
    (case z_bool => k_is)
    (case z_str => k_is)
    (case z_list => k_is)
    (case z_tuple => k_is)
    (case z_dict => k_is)
    (case z_len => k_is)
    (case z_all => k_is)
    (case z_sum => k_is)
    (case z_zip => k_is)
    (case z_range => k_is)
    (case z_enumerate => k_is)
    (case z_abs => k_is)
    (case z_max => k_is)
    (case z_min => k_is)
    (case g_MOST_WIDE => k_is)
    (case aW => k_is)
    (case xW => k_is)
    (case iW => k_is)
    (case lI => k_is)
    (case cI => k_is)
    (case lcd => k_is)
    (case hvs => rfl)
    (case hfile => decide +kernel)
    (case lcc => k_is)
    (case lT => k_is)
    (case hline => rfl)
    (case mS => k_is)
    (case top_ => decide +kernel)
    (case any_ => k_is)
    (case a_InvalidLine => k_is)
    (case x_InvalidLine => k_is)
    (case sa_InvalidLine => k_is)
    (case nn_InvalidLine => k_is)
    (case ii_InvalidLine => k_is)
    (case kc_InvalidLine => k_is)
    (case se_InvalidLine => k_is)
    (case sv_InvalidLine => k_is)
    (case ty_InvalidLine => k_is)
    (case ne_InvalidLine => first | decide | k_is)
    (case ga_InvalidLine => k_is)
    (case gg_InvalidLine => k_is)
    (case hd_InvalidLine => k_is)
    (case ic_InvalidLine => k_is)
    (case a_InvalidTable => k_is)
    (case x_InvalidTable => k_is)
    (case sa_InvalidTable => k_is)
    (case nn_InvalidTable => k_is)
    (case ii_InvalidTable => k_is)
    (case kc_InvalidTable => k_is)
    (case se_InvalidTable => k_is)
    (case sv_InvalidTable => k_is)
    (case ty_InvalidTable => k_is)
    (case ne_InvalidTable => first | decide | k_is)
    (case ga_InvalidTable => k_is)
    (case gg_InvalidTable => k_is)
    (case hd_InvalidTable => k_is)
    (case ic_InvalidTable => k_is)
    (case tI => k_is)
    (case s_InvalidLine_InvalidLine => first | rfl | k_is)
    (case s_InvalidLine_InvalidTable => first | rfl | k_is)
    (case s_InvalidTable_InvalidLine => first | rfl | k_is)
    (case s_InvalidTable_InvalidTable => first | rfl | k_is)
