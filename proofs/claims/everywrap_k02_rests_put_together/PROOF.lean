import PyProof.Rows.All
import Wide.All
import OpenK.AllK
import Wide.FinOn
import HandS.ForMost
import HandS.ForExc
import HandS.IsInst
import HandS.TupMul
import HandS.TupAny
import HandS.Wide
import HandS.Walk
import HandS.Style
import HandS.TryMany
import HandS.ExcInit
import HandS.NoneIn
import HandS.Zip
import KE.KExcSuper
import KE.KFromBytes
import HandS.ExcSuper
import HandS.ExcField
import HandS.Defaults
import HandS.HeadWalk
import PyProof.EnumIter
import PyProof.EnumMake
import HandS.Zip0
import HandS.Iter
import HandS.Text
import HandS.Dict
import HandS.WordsDict
import PySem.Challenge.RW_everywrap_k02_rests_put_together
section
set_option Elab.async false
set_option linter.all false
set_option maxRecDepth 100000
set_option maxHeartbeats 1000000
/-! EwA: values as data over the layer: frames, data, types of values, typed slots, typed readings. -/
namespace Ew
open PySem PySem.Spec PyProof.Rows L2

/-! ### boxes and frames -/
/-- the shape of a box of draws -/
def BxL (xs : List V) : Prop := ∃ (g : Int) (b : Bool) (c n : Int), xs = [.int g, .bl b, .int c, .int n] ∧ 0 ≤ c ∧ c < 2147483629
def BoxAt (H : Hp) (a : Addr) : Prop := ∃ xs, H a = some (.lst xs) ∧ BxL xs
/-- everything stands as it stood; the boxes at B may have turned -/
def Ex (B : Addr → Prop) (H H' : Hp) : Prop := ∀ a o, H a = some o → H' a = some o ∨ (B a ∧ BoxAt H a ∧ BoxAt H' a)
section
variable {B : Addr → Prop} {H H1 H2 H3 : Hp} {a p : Addr} {o : HO} {K : PySem.W.Frag} {xs : List V}
theorem Ex.refl (B : Addr → Prop) (H : Hp) : Ex B H H := fun _ _ h => .inl h
theorem Ex.trans (e : Ex B H1 H2) (f : Ex B H2 H3) : Ex B H1 H3 := fun a o h => by
  rcases e a o h with q | ⟨b, q1, q2⟩
  · rcases f a o q with r | ⟨b, r1, r2⟩
    · exact .inl r
    · refine .inr ⟨b, ?_, r2⟩
      obtain ⟨xs, r1, r3⟩ := r1
      rw [q] at r1; cases r1
      exact ⟨xs, h, r3⟩
  · obtain ⟨ys, q3, q4⟩ := q2
    rcases f a _ q3 with r | ⟨_, r1, r2⟩
    · exact .inr ⟨b, q1, ys, r, q4⟩
    · exact .inr ⟨b, q1, r2⟩
theorem Ex.keep (e : Ex B H1 H2) (h : H1 a = some o) (n : ¬ B a) : H2 a = some o := (e a o h).elim id fun q => absurd q.1 n
theorem Ex.keepT (e : Ex B H1 H2) (h : H1 a = some o) (n : ∀ xs, o ≠ .lst xs) : H2 a = some o := (e a o h).elim id fun q => by
  obtain ⟨_, ⟨xs, q, _⟩, _⟩ := q
  rw [h] at q; cases q
  exact absurd rfl (n xs)
theorem Ex.free (e : Ex B H1 H2) (h : H2 p = none) : H1 p = none := by
  cases q : H1 p with
  | none => rfl
  | some o =>
    rcases e p o q with r | ⟨_, _, _, r, _⟩
    · rw [r] at h; cases h
    · rw [r] at h; cases h
theorem Ex.new (h : H p = none) : Ex B H (upd H p o) := fun b u e => .inl (by rw [upd_ne (ne_of_none e h)]; exact e)
/-- an object that was not there at H1 is changed -/
theorem Ex.mut (e : Ex B H1 H2) (h : H1 p = none) : Ex B H1 (upd H2 p o) := fun b u q => by
  have nb := ne_of_none q h
  rcases e b u q with r | ⟨x, r1, r2⟩
  · exact .inl (by rw [upd_ne nb]; exact r)
  · refine .inr ⟨x, r1, ?_⟩
    obtain ⟨ys, r3, r4⟩ := r2
    exact ⟨ys, by rw [upd_ne nb]; exact r3, r4⟩
theorem Ex.box (e : Ex B H1 H2) (h : BoxAt H1 a) : BoxAt H2 a := by
  obtain ⟨xs, h1, h2⟩ := h
  rcases e a _ h1 with r | ⟨_, _, r⟩
  · exact ⟨xs, r, h2⟩
  · exact r
/-- the box itself is changed -/
theorem Ex.turn (b : B p) (h : BoxAt H p) (n : BxL xs) : Ex B H (upd H p (.lst xs)) := fun c u q => by
  by_cases e : c = p
  · subst e
    exact .inr ⟨b, h, xs, upd_same, n⟩
  · exact .inl (by rw [upd_ne e]; exact q)
theorem Ex.sqT (e : Ex B H1 H2) (h : SqT K H1 a xs) : SqT K H2 a xs := by
  rcases h with (h | ⟨o, h⟩) | h
  · exact .inl (.inl (e.keepT h fun _ z => nomatch z))
  · exact .inl (.inr ⟨o, e.keepT h fun _ z => nomatch z⟩)
  · exact .inr h
theorem Ex.sqL (e : Ex B H1 H2) (n : ¬ B a) (h : SqL K H1 a xs) : SqL K H2 a xs := by
  rcases h with (h | ⟨o, h⟩) | h
  · exact .inl (.inl (e.keep h n))
  · exact .inl (.inr ⟨o, e.keep h n⟩)
  · exact .inr h
theorem Ex.sub {B' : Addr → Prop} (e : Ex B H1 H2) (s : ∀ a, B a → B' a) : Ex B' H1 H2 := fun a o h => (e a o h).imp id fun q => ⟨s a q.1, q.2⟩
end

/-- .. and what is under construction at M may have changed -/
def Exm (M B : Addr → Prop) (H H' : Hp) : Prop := ∀ a o, H a = some o → H' a = some o ∨ (M a ∧ (∃ xs, o = .lst xs) ∧ (∃ ys, H' a = some (.lst ys)) ∧ (B a → BoxAt H a → BoxAt H' a))
section
variable {M B : Addr → Prop} {H H1 H2 H3 : Hp} {a p D : Addr} {o : HO} {K : PySem.W.Frag} {xs ys : List V}
theorem Ex.toM (e : Ex B H1 H2) (s : ∀ a, B a → M a) : Exm M B H1 H2 := fun a o h => (e a o h).imp id fun ⟨b, ⟨xs, q1, q2⟩, q3⟩ => ⟨s a b, ⟨xs, by rw [h] at q1; exact Option.some.inj q1⟩, let ⟨ys, r, _⟩ := q3; ⟨ys, r⟩, fun _ _ => q3⟩
theorem Exm.keep (e : Exm M B H1 H2) (h : H1 a = some o) (n : ¬ M a) : H2 a = some o := (e a o h).elim id fun q => absurd q.1 n
theorem Exm.keepT (e : Exm M B H1 H2) (h : H1 a = some o) (n : ∀ xs, o ≠ .lst xs) : H2 a = some o := (e a o h).elim id fun ⟨_, ⟨xs, q⟩, _⟩ => absurd q (n xs)
theorem Exm.box (e : Exm M B H1 H2) (b : B a) (h : BoxAt H1 a) : BoxAt H2 a := by
  obtain ⟨xs, h1, h2⟩ := h
  rcases e a _ h1 with r | ⟨_, _, _, r⟩
  · exact ⟨xs, r, h2⟩
  · exact r b ⟨xs, h1, h2⟩
theorem Exm.sqT (e : Exm M B H1 H2) (h : SqT K H1 a xs) : SqT K H2 a xs := by
  rcases h with (h | ⟨o, h⟩) | h
  · exact .inl (.inl (e.keepT h fun _ z => nomatch z))
  · exact .inl (.inr ⟨o, e.keepT h fun _ z => nomatch z⟩)
  · exact .inr h
theorem Exm.sqL (e : Exm M B H1 H2) (n : ¬ M a) (h : SqL K H1 a xs) : SqL K H2 a xs := by
  rcases h with (h | ⟨o, h⟩) | h
  · exact .inl (.inl (e.keep h n))
  · exact .inl (.inr ⟨o, e.keep h n⟩)
  · exact .inr h
/-- a list under construction is written -/
theorem Exm.put (m : M D) (b : ¬ B D) (h : H D = some (.lst xs)) : Exm M B H (upd H D (.lst ys)) := fun c u q => by
  by_cases e : c = D
  · subst e
    rw [h] at q; cases q
    exact .inr ⟨m, ⟨xs, rfl⟩, ⟨ys, upd_same⟩, fun z => absurd z b⟩
  · exact .inl (by rw [upd_ne e]; exact q)
end
/-- M and D -/
def ad (M : Addr → Prop) (D : Addr) : Addr → Prop := fun a => M a ∨ a = D

/-! ### data -/
def kD : Key → PyData
  | .inl i => .int i
  | .inr x => .str x
mutual
/-- the value is the data; its lists are no boxes of B -/
inductive Rp (M : Addr → Prop) (K : PySem.W.Frag) (H : Hp) : V → PyData → Prop
  | non : Rp M K H .non .none
  | bl (b : Bool) : Rp M K H (.bl b) (.bool b)
  | int (i : Int) : Rp M K H (.int i) (.int i)
  | str (x : Str) : Rp M K H (.str x) (.str x)
  | lst {a : Addr} {xs : List V} {ds : List PyData} : H a = some (.lst xs) → ¬ M a → RpA M K H xs ds → Rp M K H (.ref a) (.list ds)
  | tup {a : Addr} {xs : List V} {ds : List PyData} : SqT K H a xs → RpA M K H xs ds → Rp M K H (.ref a) (.tuple ds)
  | dic {a : Addr} {kvs : List (Key × V)} {ds : List (PyData × PyData)} : H a = some (.dK kvs) → RpK M K H kvs ds → Rp M K H (.ref a) (.dict ds)
inductive RpA (M : Addr → Prop) (K : PySem.W.Frag) (H : Hp) : List V → List PyData → Prop
  | nil : RpA M K H [] []
  | cons {v : V} {vs : List V} {d : PyData} {ds : List PyData} : Rp M K H v d → RpA M K H vs ds → RpA M K H (v :: vs) (d :: ds)
inductive RpK (M : Addr → Prop) (K : PySem.W.Frag) (H : Hp) : List (Key × V) → List (PyData × PyData) → Prop
  | nil : RpK M K H [] []
  | cons {k : Key} {v : V} {vs : List (Key × V)} {d : PyData} {ds : List (PyData × PyData)} : Rp M K H v d → RpK M K H vs ds → RpK M K H ((k, v) :: vs) ((kD k, d) :: ds)
end
section
variable {M B : Addr → Prop} {K : PySem.W.Frag} {H H' : Hp}
mutual
theorem Rp.up (e : Exm M B H H') : ∀ {v : V} {d : PyData}, Rp M K H v d → Rp M K H' v d
  | _, _, .non => .non
  | _, _, .bl b => .bl b
  | _, _, .int i => .int i
  | _, _, .str x => .str x
  | _, _, .lst h n r => .lst (e.keep h n) n (RpA.up e r)
  | _, _, .tup h r => .tup (e.sqT h) (RpA.up e r)
  | _, _, .dic h r => .dic (e.keepT h fun _ z => nomatch z) (RpK.up e r)
theorem RpA.up (e : Exm M B H H') : ∀ {v : List V} {d : List PyData}, RpA M K H v d → RpA M K H' v d
  | _, _, .nil => .nil
  | _, _, .cons h r => .cons (Rp.up e h) (RpA.up e r)
theorem RpK.up (e : Exm M B H H') : ∀ {v : List (Key × V)} {d : List (PyData × PyData)}, RpK M K H v d → RpK M K H' v d
  | _, _, .nil => .nil
  | _, _, .cons h r => .cons (Rp.up e h) (RpK.up e r)
end
theorem RpA.length : ∀ {v : List V} {d : List PyData}, RpA M K H v d → v.length = d.length
  | _, _, .nil => rfl
  | _, _, .cons _ r => by rw [List.length_cons, List.length_cons, RpA.length r]
theorem RpA.get : ∀ {v : List V} {d : List PyData} {i : Nat} {x : V}, RpA M K H v d → v[i]? = some x → ∃ y, d[i]? = some y ∧ Rp M K H x y
  | _, _, _, _, .nil, e => by simp at e
  | _, _, 0, _, .cons h _, e => by simp at e; subst e; exact ⟨_, rfl, h⟩
  | _, _, i + 1, _, .cons _ r, e => by
    obtain ⟨y, h1, h2⟩ := RpA.get (i := i) r (by simpa using e)
    exact ⟨y, by simpa using h1, h2⟩
theorem RpA.getD : ∀ {v : List V} {d : List PyData} {i : Nat} {y : PyData}, RpA M K H v d → d[i]? = some y → ∃ x, v[i]? = some x ∧ Rp M K H x y
  | _, _, _, _, .nil, e => by simp at e
  | _, _, 0, _, .cons h _, e => by simp at e; subst e; exact ⟨_, rfl, h⟩
  | _, _, i + 1, _, .cons _ r, e => by
    obtain ⟨y, h1, h2⟩ := RpA.getD (i := i) r (by simpa using e)
    exact ⟨y, by simpa using h1, h2⟩
theorem RpA.append : ∀ {v w : List V} {d e : List PyData}, RpA M K H v d → RpA M K H w e → RpA M K H (v ++ w) (d ++ e)
  | _, _, _, _, .nil, s => s
  | _, _, _, _, .cons h r, s => .cons h (RpA.append r s)
mutual
theorem Rp.weak {D : Addr} (n : H D = none) : ∀ {v : V} {d : PyData}, Rp M K H v d → Rp (ad M D) K H v d
  | _, _, .non => .non
  | _, _, .bl b => .bl b
  | _, _, .int i => .int i
  | _, _, .str x => .str x
  | _, _, .lst h q r => .lst h (fun z => z.elim q (ne_of_none h n)) (RpA.weak n r)
  | _, _, .tup h r => .tup h (RpA.weak n r)
  | _, _, .dic h r => .dic h (RpK.weak n r)
theorem RpA.weak {D : Addr} (n : H D = none) : ∀ {v : List V} {d : List PyData}, RpA M K H v d → RpA (ad M D) K H v d
  | _, _, .nil => .nil
  | _, _, .cons h r => .cons (Rp.weak n h) (RpA.weak n r)
theorem RpK.weak {D : Addr} (n : H D = none) : ∀ {v : List (Key × V)} {d : List (PyData × PyData)}, RpK M K H v d → RpK (ad M D) K H v d
  | _, _, .nil => .nil
  | _, _, .cons h r => .cons (Rp.weak n h) (RpK.weak n r)
end
mutual
theorem Rp.drop {D : Addr} : ∀ {v : V} {d : PyData}, Rp (ad M D) K H v d → Rp M K H v d
  | _, _, .non => .non
  | _, _, .bl b => .bl b
  | _, _, .int i => .int i
  | _, _, .str x => .str x
  | _, _, .lst h q r => .lst h (fun z => q (.inl z)) (RpA.drop r)
  | _, _, .tup h r => .tup h (RpA.drop r)
  | _, _, .dic h r => .dic h (RpK.drop r)
theorem RpA.drop {D : Addr} : ∀ {v : List V} {d : List PyData}, RpA (ad M D) K H v d → RpA M K H v d
  | _, _, .nil => .nil
  | _, _, .cons h r => .cons (Rp.drop h) (RpA.drop r)
theorem RpK.drop {D : Addr} : ∀ {v : List (Key × V)} {d : List (PyData × PyData)}, RpK (ad M D) K H v d → RpK M K H v d
  | _, _, .nil => .nil
  | _, _, .cons h r => .cons (Rp.drop h) (RpK.drop r)
end
end

/-! ### types of values -/
structure Typ where
  p : (M B : Addr → Prop) → V → Hp → Prop
  up : ∀ {M B : Addr → Prop} {v : V} {H H' : Hp}, Exm M B H H' → p M B v H → p M B v H'
  weak : ∀ {M B : Addr → Prop} {v : V} {H : Hp} {D : Addr}, H D = none → p M B v H → p (ad M D) B v H
  drop : ∀ {M B : Addr → Prop} {v : V} {H : Hp} {D : Addr}, p (ad M D) B v H → p M B v H
/-- just the data d -/
def dt (K : PySem.W.Frag) (d : PyData) : Typ := ⟨fun M _ v H => Rp M K H v d, fun e h => Rp.up e h, fun n h => Rp.weak n h, fun h => Rp.drop h⟩
/-- just the value v -/
def isV (w : V) : Typ := ⟨fun _ _ v _ => v = w, fun _ h => h, fun _ h => h, fun h => h⟩
/-- a box -/
def bx : Typ := ⟨fun _ B v H => ∃ p, v = .ref p ∧ B p ∧ BoxAt H p, fun e ⟨p, h1, h2, h3⟩ => ⟨p, h1, h2, e.box h2 h3⟩, fun _ h => h, fun h => h⟩
def exT {α : Type} (A : α → Typ) : Typ := ⟨fun M B v H => ∃ x, (A x).p M B v H, fun e ⟨x, h⟩ => ⟨x, (A x).up e h⟩, fun n ⟨x, h⟩ => ⟨x, (A x).weak n h⟩, fun ⟨x, h⟩ => ⟨x, (A x).drop h⟩⟩
def gd (φ : Prop) (A : Typ) : Typ := ⟨fun M B v H => φ ∧ A.p M B v H, fun e ⟨h1, h2⟩ => ⟨h1, A.up e h2⟩, fun n ⟨h1, h2⟩ => ⟨h1, A.weak n h2⟩, fun ⟨h1, h2⟩ => ⟨h1, A.drop h2⟩⟩
def anT (A C : Typ) : Typ := ⟨fun M B v H => A.p M B v H ∧ C.p M B v H, fun e ⟨h1, h2⟩ => ⟨A.up e h1, C.up e h2⟩, fun n ⟨h1, h2⟩ => ⟨A.weak n h1, C.weak n h2⟩, fun ⟨h1, h2⟩ => ⟨A.drop h1, C.drop h2⟩⟩
section
variable {M B : Addr → Prop}
/-- values by types, one by one -/
def TysV (M B : Addr → Prop) : List Typ → List V → Hp → Prop
  | [], [], _ => True
  | T :: Ts, v :: vs, H => T.p M B v H ∧ TysV M B Ts vs H
  | _, _, _ => False
theorem TysV.up {H H' : Hp} (e : Exm M B H H') : ∀ {Ts : List Typ} {vs : List V}, TysV M B Ts vs H → TysV M B Ts vs H'
  | [], [], h => h
  | T :: _, _ :: _, h => ⟨T.up e h.1, TysV.up e h.2⟩
  | [], _ :: _, h => h.elim
  | _ :: _, [], h => h.elim
theorem TysV.weak {H : Hp} {D : Addr} (n : H D = none) : ∀ {Ts : List Typ} {vs : List V}, TysV M B Ts vs H → TysV (ad M D) B Ts vs H
  | [], [], h => h
  | T :: _, _ :: _, h => ⟨T.weak n h.1, TysV.weak n h.2⟩
  | [], _ :: _, h => h.elim
  | _ :: _, [], h => h.elim
theorem TysV.drop {H : Hp} {D : Addr} : ∀ {Ts : List Typ} {vs : List V}, TysV (ad M D) B Ts vs H → TysV M B Ts vs H
  | [], [], h => h
  | T :: _, _ :: _, h => ⟨T.drop h.1, TysV.drop h.2⟩
  | [], _ :: _, h => h.elim
  | _ :: _, [], h => h.elim
theorem TysV.length {H : Hp} : ∀ {Ts : List Typ} {vs : List V}, TysV M B Ts vs H → vs.length = Ts.length
  | [], [], _ => rfl
  | _ :: _, _ :: _, h => by rw [List.length_cons, List.length_cons, TysV.length h.2]
  | [], _ :: _, h => h.elim
  | _ :: _, [], h => h.elim
theorem TysV.append {H : Hp} : ∀ {Ts Us : List Typ} {vs ws : List V}, TysV M B Ts vs H → TysV M B Us ws H → TysV M B (Ts ++ Us) (vs ++ ws) H
  | [], _, [], _, _, h => h
  | _ :: _, _, _ :: _, _, h, k => ⟨h.1, TysV.append h.2 k⟩
  | [], _, _ :: _, _, h, _ => h.elim
  | _ :: _, _, [], _, h, _ => h.elim
theorem TysV.get {H : Hp} : ∀ {Ts : List Typ} {vs : List V} {i : Nat} {T : Typ}, TysV M B Ts vs H → Ts[i]? = some T → ∃ v, vs[i]? = some v ∧ T.p M B v H
  | T :: _, v :: _, 0, _, h, e => by simp at e; subst e; exact ⟨v, rfl, h.1⟩
  | _ :: _, _ :: _, i + 1, _, h, e => by
    obtain ⟨v, h1, h2⟩ := TysV.get (i := i) h.2 (by simpa using e)
    exact ⟨v, by simpa using h1, h2⟩
  | [], [], _, _, _, e => by simp at e
  | [], _ :: _, _, _, h, _ => h.elim
  | _ :: _, [], _, _, h, _ => h.elim
theorem TysV.data {K : PySem.W.Frag} {H : Hp} : ∀ {ds : List PyData} {vs : List V}, TysV M B (ds.map (dt K)) vs H → RpA M K H vs ds
  | [], [], _ => .nil
  | _ :: _, _ :: _, h => .cons h.1 (TysV.data h.2)
  | [], _ :: _, h => h.elim
  | _ :: _, [], h => h.elim
theorem TysV.ofData {K : PySem.W.Frag} {H : Hp} : ∀ {ds : List PyData} {vs : List V}, RpA M K H vs ds → TysV M B (ds.map (dt K)) vs H
  | [], [], _ => True.intro
  | _ :: _, _ :: _, .cons h r => ⟨h, TysV.ofData r⟩

/-! ### typed slots -/
abbrev Gam := List (Option Typ)
def EnvL (M B : Addr → Prop) : Gam → L2.St → Hp → Prop
  | [], [], _ => True
  | none :: Γ, _ :: σ, H => EnvL M B Γ σ H
  | some T :: Γ, some v :: σ, H => T.p M B v H ∧ EnvL M B Γ σ H
  | _, _, _ => False
theorem EnvL.up {H H' : Hp} (e : Exm M B H H') : ∀ {Γ : Gam} {σ : L2.St}, EnvL M B Γ σ H → EnvL M B Γ σ H'
  | [], [], h => h
  | none :: Γ, _ :: σ, h => EnvL.up (Γ := Γ) e h
  | some T :: _, some _ :: _, h => ⟨T.up e h.1, EnvL.up e h.2⟩
  | [], _ :: _, h => h.elim
  | none :: _, [], h => h.elim
  | some _ :: _, [], h => h.elim
  | some _ :: _, none :: _, h => h.elim
theorem EnvL.weak {H : Hp} {D : Addr} (n : H D = none) : ∀ {Γ : Gam} {σ : L2.St}, EnvL M B Γ σ H → EnvL (ad M D) B Γ σ H
  | [], [], h => h
  | none :: Γ, _ :: σ, h => EnvL.weak (Γ := Γ) n h
  | some T :: _, some _ :: _, h => ⟨T.weak n h.1, EnvL.weak n h.2⟩
  | [], _ :: _, h => h.elim
  | none :: _, [], h => h.elim
  | some _ :: _, [], h => h.elim
  | some _ :: _, none :: _, h => h.elim
theorem EnvL.drop {H : Hp} {D : Addr} : ∀ {Γ : Gam} {σ : L2.St}, EnvL (ad M D) B Γ σ H → EnvL M B Γ σ H
  | [], [], h => h
  | none :: Γ, _ :: σ, h => EnvL.drop (Γ := Γ) h
  | some T :: _, some _ :: _, h => ⟨T.drop h.1, EnvL.drop h.2⟩
  | [], _ :: _, h => h.elim
  | none :: _, [], h => h.elim
  | some _ :: _, [], h => h.elim
  | some _ :: _, none :: _, h => h.elim
theorem EnvL.length {H : Hp} : ∀ {Γ : Gam} {σ : L2.St}, EnvL M B Γ σ H → σ.length = Γ.length
  | [], [], _ => rfl
  | none :: Γ, _ :: σ, h => by rw [List.length_cons, List.length_cons, EnvL.length (Γ := Γ) h]
  | some T :: _, some _ :: _, h => by rw [List.length_cons, List.length_cons, EnvL.length h.2]
  | [], _ :: _, h => h.elim
  | none :: _, [], h => h.elim
  | some _ :: _, [], h => h.elim
  | some _ :: _, none :: _, h => h.elim
theorem EnvL.get {H : Hp} : ∀ {Γ : Gam} {σ : L2.St} {i : Nat} {T : Typ}, EnvL M B Γ σ H → Γ[i]? = some (some T) → ∃ v, σ[i]? = some (some v) ∧ T.p M B v H
  | some T :: _, some v :: _, 0, _, h, e => by simp at e; subst e; exact ⟨v, rfl, h.1⟩
  | none :: _, _ :: _, 0, _, _, e => by simp at e
  | none :: Γ, _ :: σ, i + 1, _, h, e => by
    obtain ⟨v, h1, h2⟩ := EnvL.get (Γ := Γ) (i := i) h (by simpa using e)
    exact ⟨v, by simpa using h1, h2⟩
  | some _ :: _, some _ :: _, i + 1, _, h, e => by
    obtain ⟨v, h1, h2⟩ := EnvL.get (i := i) h.2 (by simpa using e)
    exact ⟨v, by simpa using h1, h2⟩
  | [], [], _, _, _, e => by simp at e
  | [], _ :: _, _, _, h, _ => h.elim
  | none :: _, [], _, _, h, _ => h.elim
  | some _ :: _, [], _, _, h, _ => h.elim
  | some _ :: _, none :: _, _, _, h, _ => h.elim
theorem EnvL.set {H : Hp} {T : Typ} {v : V} (hv : T.p M B v H) : ∀ {Γ : Gam} {σ : L2.St} {i : Nat}, EnvL M B Γ σ H → EnvL M B (Γ.set i (some T)) (σ.set i (some v)) H
  | [], [], _, h => by simpa using h
  | none :: Γ, s :: σ, 0, h => ⟨hv, h⟩
  | some _ :: _, some _ :: _, 0, h => ⟨hv, h.2⟩
  | none :: Γ, none :: σ, i + 1, h => EnvL.set (Γ := Γ) (i := i) hv h
  | none :: Γ, some _ :: σ, i + 1, h => EnvL.set (Γ := Γ) (i := i) hv h
  | some _ :: _, some _ :: _, i + 1, h => ⟨h.1, EnvL.set (i := i) hv h.2⟩
  | [], _ :: _, _, h => h.elim
  | none :: _, [], _, h => h.elim
  | some _ :: _, [], _, h => h.elim
  | some _ :: _, none :: _, _, h => h.elim
theorem EnvL.wipe1 {H : Hp} : ∀ {Γ : Gam} {σ : L2.St} {i : Nat}, EnvL M B Γ σ H → EnvL M B (Γ.set i none) (σ.set i none) H
  | [], [], _, h => by simpa using h
  | none :: Γ, s :: σ, 0, h => h
  | some _ :: _, some _ :: _, 0, h => h.2
  | none :: Γ, none :: σ, i + 1, h => EnvL.wipe1 (Γ := Γ) (i := i) h
  | none :: Γ, some _ :: σ, i + 1, h => EnvL.wipe1 (Γ := Γ) (i := i) h
  | some _ :: _, some _ :: _, i + 1, h => ⟨h.1, EnvL.wipe1 (i := i) h.2⟩
  | [], _ :: _, _, h => h.elim
  | none :: _, [], _, h => h.elim
  | some _ :: _, [], _, h => h.elim
  | some _ :: _, none :: _, _, h => h.elim
def wipeG (Γ : Gam) : List Nat → Gam
  | [] => Γ
  | v :: vs => (wipeG Γ vs).set v none
theorem EnvL.wipe {H : Hp} {Γ : Gam} {σ : L2.St} (h : EnvL M B Γ σ H) : ∀ vs : List Nat, EnvL M B (wipeG Γ vs) (L2.wipe σ vs) H
  | [] => h
  | _ :: vs => EnvL.wipe1 (EnvL.wipe h vs)
/-- slots may be forgotten -/
def Less : Gam → Gam → Prop
  | [], [] => True
  | none :: Γ, _ :: Δ => Less Γ Δ
  | some T :: Γ, some U :: Δ => (∀ M B v H, U.p M B v H → T.p M B v H) ∧ Less Γ Δ
  | _, _ => False
theorem EnvL.less {H : Hp} : ∀ {Γ Δ : Gam} {σ : L2.St}, Less Γ Δ → EnvL M B Δ σ H → EnvL M B Γ σ H
  | [], [], [], _, _ => True.intro
  | none :: Γ, none :: Δ, _ :: σ, l, h => EnvL.less (Γ := Γ) (Δ := Δ) l h
  | none :: Γ, some _ :: Δ, some _ :: σ, l, h => EnvL.less (Γ := Γ) (Δ := Δ) l h.2
  | some _ :: Γ, some _ :: Δ, some _ :: σ, l, h => ⟨l.1 _ _ _ _ h.1, EnvL.less (Γ := Γ) (Δ := Δ) l.2 h.2⟩
  | [], [], _ :: _, _, h => h.elim
  | [], _ :: _, _, l, _ => l.elim
  | none :: _, [], _, l, _ => l.elim
  | some _ :: _, [], _, l, _ => l.elim
  | some _ :: _, none :: _, _, l, _ => l.elim
  | none :: _, none :: _, [], _, h => h.elim
  | none :: _, some _ :: _, [], _, h => h.elim
  | none :: _, some _ :: _, none :: _, _, h => h.elim
  | some _ :: _, some _ :: _, [], _, h => h.elim
  | some _ :: _, some _ :: _, none :: _, _, h => h.elim
theorem Less.refl : ∀ (Γ : Gam), Less Γ Γ
  | [] => True.intro
  | none :: Γ => Less.refl Γ
  | some _ :: Γ => ⟨fun _ _ _ _ h => h, Less.refl Γ⟩
end
end Ew

end
section
set_option Elab.async false
set_option linter.all false
set_option maxRecDepth 100000
set_option maxHeartbeats 1000000
/-! EwB: typed readings. -/
namespace Ew
open PySem PySem.Spec PyProof.Rows L2
abbrev Sx := L2.St
theorem Exm.refl (M B : Addr → Prop) (H : Hp) : Exm M B H H := fun _ _ h => .inl h
theorem Exm.trans {M B : Addr → Prop} {H1 H2 H3 : Hp} (e : Exm M B H1 H2) (f : Exm M B H2 H3) : Exm M B H1 H3 := fun a o h => by
  rcases e a o h with q | ⟨m, ⟨xs, rfl⟩, ⟨ys, q⟩, b⟩
  · exact f a o q |>.imp id fun ⟨m, x, y, b⟩ => ⟨m, x, y, fun z1 z2 => b z1 (by obtain ⟨xs, z3, z4⟩ := z2; rw [h] at z3; cases z3; exact ⟨xs, q, z4⟩)⟩
  · rcases f a _ q with r | ⟨_, _, y, b'⟩
    · exact .inr ⟨m, ⟨xs, rfl⟩, ⟨ys, r⟩, fun z1 z2 => by
        obtain ⟨zs, z3, z4⟩ := b z1 z2
        rw [q] at z3; cases z3
        exact ⟨ys, r, z4⟩⟩
    · exact .inr ⟨m, ⟨xs, rfl⟩, y, fun z1 z2 => b' z1 (b z1 z2)⟩
/-- the world of a def's body: M no data's own, B the boxes, H0 the heap at the entry, Ω what else stands while expressions are evaluated -/
structure Wd where
  M : Addr → Prop
  B : Addr → Prop
  H0 : Hp
  Ω : Hp → Prop
  sub : ∀ a, B a → M a
  kept : ∀ {H H' : Hp}, Ex B H H' → Ω H → Ω H'
structure Cxt (W : Wd) (H : Hp) : Prop where
  box : ∀ a, W.B a → BoxAt H a
  al : ∀ a, W.M a → H a ≠ none
  ex : Ex W.B W.H0 H
  own : W.Ω H
/-- what is made at D is under construction -/
def Wd.ad (W : Wd) (D : Addr) : Wd := ⟨Ew.ad W.M D, W.B, W.H0, W.Ω, fun a h => .inl (W.sub a h), W.kept⟩
abbrev Typ.at (T : Typ) (W : Wd) (v : V) (H : Hp) : Prop := T.p W.M W.B v H
section
variable {W : Wd} {H H' : Hp} {p : Addr}
theorem Ex.toW (e : Ex W.B H H') : Exm W.M W.B H H' := e.toM W.sub
theorem Cxt.up (c : Cxt W H) (e : Ex W.B H H') : Cxt W H' := ⟨fun a h => e.box (c.box a h), fun a h z => c.al a h (e.free z), c.ex.trans e, W.kept e c.own⟩
theorem Cxt.nm (c : Cxt W H) (h : H p = none) : ¬ W.M p := fun b => c.al p b h
theorem Cxt.nb (c : Cxt W H) (h : H p = none) : ¬ W.B p := fun b => c.nm h (W.sub p b)
end
section
variable (W : Wd) (Γ : Gam)
abbrev EnvW (σ : Sx) (H : Hp) : Prop := EnvL W.M W.B Γ σ H
def Ty (te : TE) (T : Typ) : Prop := ∀ σ H, Cxt W H → EnvW W Γ σ H → ∀ Q : VK, (∀ v H1, Ex W.B H H1 → T.at W v H1 → Q v H1) → te σ H Q
def TyA (ta : TA) (Ts : List Typ) : Prop := ∀ σ H, Cxt W H → EnvW W Γ σ H → ∀ Q : List V → Hp → Prop, (∀ vs H1, Ex W.B H H1 → TysV W.M W.B Ts vs H1 → Q vs H1) → ta σ H Q
/-- a new list -/
def TyL (te : TE) (Ts : List Typ) : Prop := ∀ σ H, Cxt W H → EnvW W Γ σ H → ∀ Q : VK, (∀ p xs H1, Ex W.B H H1 → H p = none → H1 p = some (.lst xs) → TysV W.M W.B Ts xs H1 → Q (.ref p) H1) → te σ H Q
def Tt (tt : TT) (φ : Bool → Prop) : Prop := ∀ σ H, Cxt W H → EnvW W Γ σ H → ∀ Q : Bool → Hp → Prop, (∀ b H1, Ex W.B H H1 → φ b → Q b H1) → tt σ H Q
def TyS (ts : TS) (N : Sx → Hp → Prop) (R : V → Hp → Prop) (Bk Ct : Sx → Hp → Prop) : Prop := ∀ σ H, Cxt W H → EnvW W Γ σ H → ∀ D : Ends, (∀ σ' H', Exm W.M W.B H H' → N σ' H' → D.nx σ' H') → (∀ v H', R v H' → D.rt v H') →
  (∀ σ' H', Exm W.M W.B H H' → Bk σ' H' → D.bk σ' H') → (∀ σ' H', Exm W.M W.B H H' → Ct σ' H' → D.ct σ' H') → ts D σ H
def OpT (r : R2) (A C P : Typ) : Prop := ∀ u v H, Cxt W H → A.at W u H → C.at W v H → ∀ Q : VK, (∀ w H1, Ex W.B H H1 → P.at W w H1 → Q w H1) → r u v H Q
def UnT (r : V → Hp → VK → Prop) (A P : Typ) : Prop := ∀ u H, Cxt W H → A.at W u H → ∀ Q : VK, (∀ w H1, Ex W.B H H1 → P.at W w H1 → Q w H1) → r u H Q
def CbT (r : List V → Hp → VK → Prop) (As : List Typ) (P : Typ) : Prop := ∀ us H, Cxt W H → TysV W.M W.B As us H → ∀ Q : VK, (∀ w H1, Ex W.B H H1 → P.at W w H1 → Q w H1) → r us H Q
/-- a new list comes -/
def CbL (r : List V → Hp → VK → Prop) (As Ts : List Typ) : Prop := ∀ us H, Cxt W H → TysV W.M W.B As us H → ∀ Q : VK, (∀ p xs H1, Ex W.B H H1 → H p = none → H1 p = some (.lst xs) → TysV W.M W.B Ts xs H1 → Q (.ref p) H1) → r us H Q
/-- slots by their types, in a world -/
def nE : Sx → Hp → Prop := fun σ H => Cxt W H ∧ EnvW W Γ σ H
end
/-- the same but for Ω -/
structure Wd.Like (W W' : Wd) : Prop where
  m : W'.M = W.M
  b : W'.B = W.B
theorem Wd.Like.refl (W : Wd) : W.Like W := ⟨rfl, rfl⟩
theorem Wd.Like.exm {W W' : Wd} (l : W.Like W') {H H' : Hp} (e : Exm W'.M W'.B H H') : Exm W.M W.B H H' := by rw [← l.m, ← l.b]; exact e
abbrev noN : Sx → Hp → Prop := fun _ _ => False
/-- a tuple, a list of values by their types -/
def tupT (K : PySem.W.Frag) (Ts : List Typ) : Typ := ⟨fun M B v H => ∃ a xs, v = .ref a ∧ SqT K H a xs ∧ TysV M B Ts xs H, fun e ⟨a, xs, h1, h2, h3⟩ => ⟨a, xs, h1, e.sqT h2, h3.up e⟩, fun n ⟨a, xs, h1, h2, h3⟩ => ⟨a, xs, h1, h2, h3.weak n⟩, fun ⟨a, xs, h1, h2, h3⟩ => ⟨a, xs, h1, h2, h3.drop⟩⟩
def lstT (Ts : List Typ) : Typ := ⟨fun M B v H => ∃ a xs, v = .ref a ∧ ¬ M a ∧ H a = some (.lst xs) ∧ TysV M B Ts xs H, fun e ⟨a, xs, h1, h0, h2, h3⟩ => ⟨a, xs, h1, h0, e.keep h2 h0, h3.up e⟩,
  fun n ⟨a, xs, h1, h0, h2, h3⟩ => ⟨a, xs, h1, fun z => z.elim h0 (ne_of_none h2 n), h2, h3.weak n⟩, fun ⟨a, xs, h1, h0, h2, h3⟩ => ⟨a, xs, h1, fun z => h0 (.inl z), h2, h3.drop⟩⟩
section
variable {W : Wd} {Γ : Gam} {K : PySem.W.Frag} {ta tb te tc : TE} {tl tr : TA} {tt tu : TT} {T U A C P : Typ} {Ts Us : List Typ} {r : R2} {φ ψ : Bool → Prop} {i : Nat} {ds es : List PyData} {d e : PyData}
theorem tupT_data {M B : Addr → Prop} {v : V} {H : Hp} (h : (tupT K (ds.map (dt K))).p M B v H) : (dt K (.tuple ds)).p M B v H := by
  obtain ⟨a, xs, rfl, h2, h3⟩ := h
  exact .tup h2 h3.data
theorem data_tupT {M B : Addr → Prop} {v : V} {H : Hp} (h : (dt K (.tuple ds)).p M B v H) : (tupT K (ds.map (dt K))).p M B v H := by
  cases h with
  | tup h2 h3 => exact ⟨_, _, rfl, h2, TysV.ofData h3⟩
theorem lstT_data {M B : Addr → Prop} {v : V} {H : Hp} (h : (lstT (ds.map (dt K))).p M B v H) : (dt K (.list ds)).p M B v H := by
  obtain ⟨a, xs, rfl, h0, h2, h3⟩ := h
  exact .lst h2 h0 h3.data
theorem data_lstT {M B : Addr → Prop} {v : V} {H : Hp} (h : (dt K (.list ds)).p M B v H) : (lstT (ds.map (dt K))).p M B v H := by
  cases h with
  | lst h2 h0 h3 => exact ⟨_, _, rfl, h0, h2, TysV.ofData h3⟩
/-! ### values -/
theorem Ty.sub (h : Ty W Γ te T) (k : ∀ v H, Cxt W H → T.at W v H → U.at W v H) : Ty W Γ te U := fun σ H c g Q q => h σ H c g Q fun v H1 e z => q v H1 e (k v H1 (c.up e) z)
theorem ty_var (h : Γ[i]? = some (some T)) : Ty W Γ (tVar i) T := fun σ H c g Q q => by
  obtain ⟨v, h1, h2⟩ := g.get h
  exact ⟨v, h1, q v H (Ex.refl W.B H) h2⟩
theorem ty_int {n : Int} : Ty W Γ (tC (.int n)) (dt K (.int n)) := fun σ H c g Q q => q _ H (Ex.refl W.B H) (.int n)
theorem ty_bl {b : Bool} : Ty W Γ (tC (.bl b)) (dt K (.bool b)) := fun σ H c g Q q => q _ H (Ex.refl W.B H) (.bl b)
theorem ty_non : Ty W Γ (tC .non) (dt K .none) := fun σ H c g Q q => q _ H (Ex.refl W.B H) .non
theorem ty_str {x : Str} : Ty W Γ (tC (.str x)) (dt K (.str x)) := fun σ H c g Q q => q _ H (Ex.refl W.B H) (.str x)
/-- a constant value: a class, a built-in class -/
theorem ty_c {v : V} : Ty W Γ (tC v) (isV v) := fun σ H c g Q q => q _ H (Ex.refl W.B H) rfl
theorem ty_op (ha : Ty W Γ ta A) (hb : Ty W Γ tb C) (ho : OpT W r A C P) : Ty W Γ (tOp r ta tb) P := fun σ H c g Q q =>
  ha σ H c g _ fun u H1 e1 h1 => hb σ H1 (c.up e1) (g.up e1.toW) _ fun v H2 e2 h2 => ho u v H2 (c.up (e1.trans e2)) (A.up e2.toW h1) h2 Q fun w H3 e3 h3 => q w H3 (e1.trans (e2.trans e3)) h3
theorem ty_un {r : V → Hp → VK → Prop} (ha : Ty W Γ ta A) (ho : UnT W r A P) : Ty W Γ (tUn r ta) P := fun σ H c g Q q =>
  ha σ H c g _ fun u H1 e1 h1 => ho u H1 (c.up e1) h1 Q fun w H3 e3 h3 => q w H3 (e1.trans e3) h3
theorem ty_cb {r : List V → Hp → VK → Prop} (ha : TyA W Γ tl Ts) (ho : CbT W r Ts P) : Ty W Γ (tCB r tl) P := fun σ H c g Q q =>
  ha σ H c g _ fun us H1 e1 h1 => ho us H1 (c.up e1) h1 Q fun w H3 e3 h3 => q w H3 (e1.trans e3) h3
theorem tyl_cb {r : List V → Hp → VK → Prop} (ha : TyA W Γ tl Ts) (ho : CbL W r Ts Us) : TyL W Γ (tCB r tl) Us := fun σ H c g Q q =>
  ha σ H c g _ fun us H1 e1 h1 => ho us H1 (c.up e1) h1 Q fun p xs H3 e3 hp h3 h4 => q p xs H3 (e1.trans e3) (e1.free hp) h3 h4
theorem ty_if (hc : Tt W Γ tt φ) (h1 : φ true → Ty W Γ ta T) (h2 : φ false → Ty W Γ tb T) : Ty W Γ (tIf tt ta tb) T := fun σ H c g Q q =>
  hc σ H c g _ fun b H1 e1 hb => by
    cases b with
    | true => rw [if_pos rfl]; exact h1 hb σ H1 (c.up e1) (g.up e1.toW) Q fun v H2 e2 h => q v H2 (e1.trans e2) h
    | false => rw [if_neg Bool.false_ne_true]; exact h2 hb σ H1 (c.up e1) (g.up e1.toW) Q fun v H2 e2 h => q v H2 (e1.trans e2) h
theorem ty_andV {a b : Bool} (h1 : Ty W Γ ta (dt K (.bool a))) (h2 : a = true → Ty W Γ tb (dt K (.bool b))) : Ty W Γ (tAndV ta tb) (dt K (.bool (a && b))) := fun σ H c g Q q =>
  h1 σ H c g _ fun v H1 e1 hv => by
    cases hv
    refine ⟨a, rfl, ?_⟩
    cases a with
    | true => rw [if_pos rfl]; exact h2 rfl σ H1 (c.up e1) (g.up e1.toW) Q fun v H2 e2 h => q v H2 (e1.trans e2) (by rw [Bool.true_and]; exact h)
    | false => rw [if_neg Bool.false_ne_true]; exact q _ H1 e1 (.bl _)
theorem ty_orV {a b : Bool} (h1 : Ty W Γ ta (dt K (.bool a))) (h2 : a = false → Ty W Γ tb (dt K (.bool b))) : Ty W Γ (tOrV ta tb) (dt K (.bool (a || b))) := fun σ H c g Q q =>
  h1 σ H c g _ fun v H1 e1 hv => by
    cases hv
    refine ⟨a, rfl, ?_⟩
    cases a with
    | true => rw [if_pos rfl]; exact q _ H1 e1 (.bl _)
    | false => rw [if_neg Bool.false_ne_true]; exact h2 rfl σ H1 (c.up e1) (g.up e1.toW) Q fun v H2 e2 h => q v H2 (e1.trans e2) (by rw [Bool.false_or]; exact h)
theorem ty_notV {a : Bool} (h1 : Ty W Γ ta (dt K (.bool a))) : Ty W Γ (tNotV ta) (dt K (.bool (!a))) := fun σ H c g Q q =>
  h1 σ H c g _ fun v H1 e1 hv => by
    cases hv
    exact ⟨a, rfl, q _ H1 e1 (.bl _)⟩
theorem Ty.is (h : Ty W Γ te (dt K d)) (k : d = e) : Ty W Γ te (dt K e) := k ▸ h
/-! ### tests -/
theorem Tt.sub (h : Tt W Γ tt φ) (k : ∀ b, φ b → ψ b) : Tt W Γ tt ψ := fun σ H c g Q q => h σ H c g Q fun b H1 e z => q b H1 e (k b z)
theorem tt_B {b : Bool} (h : Ty W Γ te (dt K (.bool b))) : Tt W Γ (tB te) (· = b) := fun σ H c g Q q => h σ H c g _ fun v H1 e hv => by
  cases hv
  exact ⟨b, rfl, q b H1 e rfl⟩
theorem tt_test {b : Bool} (h : Ty W Γ te (dt K (.bool b))) : Tt W Γ (tTest te) (· = b) := fun σ H c g Q q => h σ H c g _ fun v H1 e hv => by
  cases hv
  exact ⟨b, rfl, q b H1 e rfl⟩
/-- a truth value of which something is known -/
def boT (K : PySem.W.Frag) (φ : Bool → Prop) : Typ := exT fun b : Bool => gd (φ b) (dt K (.bool b))
theorem tt_BE (h : Ty W Γ te (boT K φ)) : Tt W Γ (tB te) φ := fun σ H c g Q q => h σ H c g _ fun v H1 e ⟨b, h1, h2⟩ => by
  cases h2
  exact ⟨b, rfl, q b H1 e h1⟩
theorem tt_testE (h : Ty W Γ te (boT K φ)) : Tt W Γ (tTest te) φ := fun σ H c g Q q => h σ H c g _ fun v H1 e ⟨b, h1, h2⟩ => by
  cases h2
  exact ⟨b, rfl, q b H1 e h1⟩
theorem tt_and (h1 : Tt W Γ tt φ) (h2 : φ true → Tt W Γ tu ψ) : Tt W Γ (tAnd tt tu) (fun b => (b = false ∧ φ false) ∨ (φ true ∧ ψ b)) := fun σ H c g Q q =>
  h1 σ H c g _ fun b H1 e1 hb => by
    cases b with
    | true => rw [if_pos rfl]; exact h2 hb σ H1 (c.up e1) (g.up e1.toW) Q fun b H2 e2 h => q b H2 (e1.trans e2) (.inr ⟨hb, h⟩)
    | false => rw [if_neg Bool.false_ne_true]; exact q false H1 e1 (.inl ⟨rfl, hb⟩)
theorem tt_or (h1 : Tt W Γ tt φ) (h2 : φ false → Tt W Γ tu ψ) : Tt W Γ (tOr tt tu) (fun b => (b = true ∧ φ true) ∨ (φ false ∧ ψ b)) := fun σ H c g Q q =>
  h1 σ H c g _ fun b H1 e1 hb => by
    cases b with
    | true => rw [if_pos rfl]; exact q true H1 e1 (.inl ⟨rfl, hb⟩)
    | false => rw [if_neg Bool.false_ne_true]; exact h2 hb σ H1 (c.up e1) (g.up e1.toW) Q fun b H2 e2 h => q b H2 (e1.trans e2) (.inr ⟨hb, h⟩)
theorem tt_andB {a b : Bool} (h1 : Tt W Γ tt (· = a)) (h2 : a = true → Tt W Γ tu (· = b)) : Tt W Γ (tAnd tt tu) (· = (a && b)) :=
  (tt_and h1 fun z => h2 z.symm).sub fun c z => by
    rcases z with ⟨rfl, z⟩ | ⟨z, rfl⟩
    · rw [← z]; rfl
    · rw [← z]; rfl
theorem tt_orB {a b : Bool} (h1 : Tt W Γ tt (· = a)) (h2 : a = false → Tt W Γ tu (· = b)) : Tt W Γ (tOr tt tu) (· = (a || b)) :=
  (tt_or h1 fun z => h2 z.symm).sub fun c z => by
    rcases z with ⟨rfl, z⟩ | ⟨z, rfl⟩
    · rw [← z]; rfl
    · rw [← z]; rfl
theorem tt_not (h1 : Tt W Γ tt φ) : Tt W Γ (tNot tt) (fun b => φ (!b)) := fun σ H c g Q q => h1 σ H c g _ fun b H1 e1 hb => q (!b) H1 e1 (by show φ (!!b); rw [Bool.not_not]; exact hb)
theorem tt_notB {a : Bool} (h1 : Tt W Γ tt (· = a)) : Tt W Γ (tNot tt) (· = !a) := (tt_not h1).sub fun b z => by rw [← z, Bool.not_not]
theorem Tt.is {a b : Bool} (h : Tt W Γ tt (· = a)) (k : a = b) : Tt W Γ tt (· = b) := k ▸ h
/-! ### arguments, displays -/
theorem tya_nil : TyA W Γ tNil [] := fun σ H c g Q q => q [] H (Ex.refl W.B H) True.intro
theorem tya_cons (h : Ty W Γ te T) (hr : TyA W Γ tr Ts) : TyA W Γ (tCons te tr) (T :: Ts) := fun σ H c g Q q =>
  h σ H c g _ fun v H1 e1 hv => hr σ H1 (c.up e1) (g.up e1.toW) _ fun vs H2 e2 hvs => q (v :: vs) H2 (e1.trans e2) ⟨T.up e2.toW hv, hvs⟩
theorem TyA.data (h : TyA W Γ tl Ts) (k : Ts = ds.map (dt K)) : TyA W Γ tl (ds.map (dt K)) := k ▸ h
theorem sz_le {n : Nat} (h : n ≤ 1000000) : n ≤ sizeLine := Nat.le_trans h (by decide)
theorem sz_lt {n : Nat} (h : n < 1000000) : n < sizeLine := Nat.lt_of_lt_of_le h (by decide)
theorem ty_tup (h : TyA W Γ tl Ts) (hz : Ts.length ≤ 1000000) : Ty W Γ (tTup tl) (tupT K Ts) := fun σ H c g Q q =>
  h σ H c g _ fun vs H1 e1 hv => ⟨by rw [hv.length]; exact sz_le hz, fun p hp => q _ _ (e1.trans (Ex.new hp)) ⟨p, vs, rfl, SqT.of upd_same, hv.up (Ex.new hp).toW⟩⟩
theorem tyl_lst (h : TyA W Γ tl Ts) (hz : Ts.length ≤ 1000000) : TyL W Γ (tLst tl) Ts := fun σ H c g Q q =>
  h σ H c g _ fun vs H1 e1 hv => ⟨by rw [hv.length]; exact sz_le hz, fun p hp => q p vs _ (e1.trans (Ex.new hp)) (e1.free hp) upd_same (hv.up (Ex.new hp).toW)⟩
theorem TyL.ty (h : TyL W Γ te Ts) : Ty W Γ te (lstT Ts) := fun σ H c g Q q => h σ H c g Q fun p xs H1 e hp h1 h2 => q _ H1 e ⟨p, xs, rfl, c.nm hp, h1, h2⟩
theorem TyL.data (h : TyL W Γ te (ds.map (dt K))) : Ty W Γ te (dt K (.list ds)) := h.ty.sub fun _ _ _ => lstT_data
theorem Ty.tup (h : Ty W Γ te (tupT K (ds.map (dt K)))) : Ty W Γ te (dt K (.tuple ds)) := h.sub fun _ _ _ => tupT_data
theorem ty_tupD (h : TyA W Γ tl (ds.map (dt K))) (hz : ds.length ≤ 1000000) : Ty W Γ (tTup tl) (dt K (.tuple ds)) := (ty_tup h (by rw [List.length_map]; exact hz)).tup
theorem ty_lstD (h : TyA W Γ tl (ds.map (dt K))) (hz : ds.length ≤ 1000000) : Ty W Γ (tLst tl) (dt K (.list ds)) := (tyl_lst h (by rw [List.length_map]; exact hz)).data
/-! ### statements -/
variable {ts tu' : TS} {N N' : Sx → Hp → Prop} {R : V → Hp → Prop} {Bk Ct : Sx → Hp → Prop} {W' : Wd}
theorem tys_seq {tw : TS} (h1 : TyS W Γ ts N R Bk Ct) (h2 : ∀ σ H, N σ H → ∃ (W' : Wd) (Γ' : Gam), W.Like W' ∧ nE W' Γ' σ H ∧ TyS W' Γ' tw N' R Bk Ct) : TyS W Γ (tSeq ts tw) N' R Bk Ct := fun σ H c g D dn dr db dc =>
  h1 σ H c g { D with nx := tw D } (fun σ' H' e n => by
    obtain ⟨W', Γ', l, g', k⟩ := h2 σ' H' n
    exact k σ' H' g'.1 g'.2 D (fun σ2 H2 e2 => dn σ2 H2 (e.trans (l.exm e2))) dr (fun σ2 H2 e2 => db σ2 H2 (e.trans (l.exm e2))) (fun σ2 H2 e2 => dc σ2 H2 (e.trans (l.exm e2)))) dr db dc
theorem tys_seqE {Γ' : Gam} {tw : TS} (h1 : TyS W Γ ts (nE W' Γ') R Bk Ct) (h2 : TyS W' Γ' tw N' R Bk Ct) (l : W.Like W' := by exact ⟨rfl, rfl⟩) : TyS W Γ (tSeq ts tw) N' R Bk Ct := tys_seq h1 fun σ H n => ⟨W', Γ', l, n, h2⟩
theorem tys_seqX {α : Type} {W' : α → Wd} {Γ' : α → Gam} {tw : TS} (h1 : TyS W Γ ts (fun σ H => ∃ x, nE (W' x) (Γ' x) σ H) R Bk Ct) (h2 : ∀ x, TyS (W' x) (Γ' x) tw N' R Bk Ct) (l : ∀ x, W.Like (W' x) := by exact fun _ => ⟨rfl, rfl⟩) : TyS W Γ (tSeq ts tw) N' R Bk Ct :=
  tys_seq h1 fun σ H ⟨x, n⟩ => ⟨W' x, Γ' x, l x, n, h2 x⟩
theorem TyS.imp (h : TyS W Γ ts N R Bk Ct) (k : ∀ σ H, N σ H → N' σ H) : TyS W Γ ts N' R Bk Ct := fun σ H c g D dn dr db dc => h σ H c g D (fun σ' H' e n => dn σ' H' e (k σ' H' n)) dr db dc
theorem TyS.never (h : TyS W Γ ts noN R Bk Ct) : TyS W Γ ts N R Bk Ct := h.imp fun _ _ z => z.elim
theorem TyS.less {Δ : Gam} (h : TyS W Γ ts N R Bk Ct) (l : Less Γ Δ) : TyS W Δ ts N R Bk Ct := fun σ H c g => h σ H c (EnvL.less l g)
theorem tys_next : TyS W Γ tNext (nE W Γ) R Bk Ct := fun σ H c g D dn _ _ _ => dn σ H (Exm.refl _ _ _) ⟨c, g⟩
theorem tys_cont : TyS W Γ tCont noN R Bk (nE W Γ) := fun σ H c g D _ _ _ dc => dc σ H (Exm.refl _ _ _) ⟨c, g⟩
theorem tys_break : TyS W Γ tBreak noN R (nE W Γ) Ct := fun σ H c g D _ _ db _ => db σ H (Exm.refl _ _ _) ⟨c, g⟩
theorem tys_set (h : Ty W Γ te T) : TyS W Γ (tAsg te (gName i)) (nE W (Γ.set i (some T))) R Bk Ct := fun σ H c g D dn _ _ _ =>
  h σ H c g _ fun v H1 e hv => dn _ H1 e.toW ⟨c.up e, EnvL.set hv (g.up e.toW)⟩
theorem tys_setX {α : Type} {A : α → Typ} (h : Ty W Γ te (exT A)) : TyS W Γ (tAsg te (gName i)) (fun σ H => ∃ x, nE W (Γ.set i (some (A x))) σ H) R Bk Ct := fun σ H c g D dn _ _ _ =>
  h σ H c g _ fun v H1 e ⟨x, hv⟩ => dn _ H1 e.toW ⟨x, c.up e, EnvL.set hv (g.up e.toW)⟩
theorem tys_ret (h : Ty W Γ te T) (k : ∀ v H, Cxt W H → T.at W v H → R v H) : TyS W Γ (tRet te) noN R Bk Ct := fun σ H c g D _ dr _ _ => h σ H c g _ fun v H1 e hv => dr v H1 (k v H1 (c.up e) hv)
theorem tys_drop (h : Ty W Γ te T) : TyS W Γ (tDrop te) (nE W Γ) R Bk Ct := fun σ H c g D dn _ _ _ => h σ H c g _ fun v H1 e _ => dn σ H1 e.toW ⟨c.up e, g.up e.toW⟩
theorem tys_if (hc : Tt W Γ tt φ) (h1 : φ true → TyS W Γ ts N R Bk Ct) (h2 : φ false → TyS W Γ tu' N R Bk Ct) : TyS W Γ (tIfS tt ts tu') N R Bk Ct := fun σ H c g D dn dr db dc =>
  hc σ H c g _ fun b H1 e hb => by
    have f := e.toW
    cases b with
    | true => rw [if_pos rfl]; exact h1 hb σ H1 (c.up e) (g.up f) D (fun σ2 H2 e2 => dn σ2 H2 (f.trans e2)) dr (fun σ2 H2 e2 => db σ2 H2 (f.trans e2)) (fun σ2 H2 e2 => dc σ2 H2 (f.trans e2))
    | false => rw [if_neg Bool.false_ne_true]; exact h2 hb σ H1 (c.up e) (g.up f) D (fun σ2 H2 e2 => dn σ2 H2 (f.trans e2)) dr (fun σ2 H2 e2 => db σ2 H2 (f.trans e2)) (fun σ2 H2 e2 => dc σ2 H2 (f.trans e2))
/-- an if that returns, then the rest -/
theorem tys_guard {tw : TS} (hc : Tt W Γ tt φ) (h1 : φ true → TyS W Γ ts noN R Bk Ct) (h2 : φ false → TyS W Γ tw N R Bk Ct) : TyS W Γ (tSeq (tIfS tt ts tNext) tw) N R Bk Ct := fun σ H c g D dn dr db dc =>
  hc σ H c g _ fun b H1 e hb => by
    have f := e.toW
    cases b with
    | true => rw [if_pos rfl]; exact h1 hb σ H1 (c.up e) (g.up f) _ (fun σ2 H2 _ z => z.elim) dr (fun σ2 H2 e2 => db σ2 H2 (f.trans e2)) (fun σ2 H2 e2 => dc σ2 H2 (f.trans e2))
    | false => rw [if_neg Bool.false_ne_true]; exact h2 hb σ H1 (c.up e) (g.up f) D (fun σ2 H2 e2 => dn σ2 H2 (f.trans e2)) dr (fun σ2 H2 e2 => db σ2 H2 (f.trans e2)) (fun σ2 H2 e2 => dc σ2 H2 (f.trans e2))
end
/-! ### promises -/
/-- for every x with C: arguments of the types A, a value of the type R; the boxes of B may turn -/
def spT {α : Type} (C : α → Prop) (A : α → List Typ) (R : α → Typ) : Sp := fun vs H Q _ => ∃ (M B : Addr → Prop) (x : α), (∀ a, B a → M a) ∧ (∀ a, B a → BoxAt H a) ∧ (∀ a, M a → H a ≠ none) ∧ C x ∧ TysV M B (A x) vs H ∧ ∀ v H', Ex B H H' → (R x).p M B v H' → Q v H'
section
variable {W : Wd} {Γ : Gam} {tl : TA} {α : Type} {C : α → Prop} {A : α → List Typ} {R : α → Typ} {E : XK}
theorem ty_call (x : α) (hC : C x) (h : TyA W Γ tl (A x)) : Ty W Γ (tCall (spT C A R) [] E tl) (R x) := fun σ H c g Q q =>
  h σ H c g _ fun vs H1 e1 hv => ⟨W.M, W.B, x, W.sub, (c.up e1).box, (c.up e1).al, hC, by rw [List.append_nil]; exact hv, fun v H2 e2 h2 => q v H2 (e1.trans e2) h2⟩
end
/-- a def's first world -/
def Wd.base (M B : Addr → Prop) (H : Hp) (s : ∀ a, B a → M a) : Wd := ⟨M, B, H, fun _ => True, s, fun _ _ => True.intro⟩
section
variable {P : Program} {w : World} {K : PySem.W.Frag} {mg : Str → Option Value} {base : Heap}
theorem okN {x qual : Str} {st : Stmt} {f : Addr} {fd : FuncData} {N ps : List Str} {k : Nat} {sp : Sp} (F : Fun K x qual st f fd) (S : FnScope N ps (defScope st)) (len : ∀ vs H Q E, sp vs H Q E → vs.length = ps.length)
    (hbody : ∀ (cdv : Value) (A : Around) (outer : List Env) (s : Shared) (H : Hp) (vs : List V) (Q : VK) (E : XK), Room k (A.deeper (envOfC qual (defScope st) s.heap.objs.size f cdv)) → sp vs H Q E →
      ∃ t, PSs (cxOf (L2.CX P w) P w K mg base N qual (defScope st) f cdv A outer s H E).nox (defBody st) t ∧ t { nx := fun _ H' => Q .non H', rt := Q } (L2.start N vs) H) : FnOk P w K mg base (L2.CX P w) (k + 1) f fd ps sp :=
  F.okX S len fun cdv A outer s H vs Q E hr hs => by
    obtain ⟨t, h, q⟩ := hbody cdv A outer s H vs Q E hr hs
    exact ⟨t, h.nox, q⟩
theorem env_start {M B : Addr → Prop} {H : Hp} : ∀ {Ts : List Typ} {vs : List V}, TysV M B Ts vs H → ∀ n, EnvL M B (Ts.map some ++ List.replicate n none) (vs.map some ++ List.replicate n none) H
  | [], [], _, n => by
    induction n with
    | zero => exact True.intro
    | succ n ih => exact ih
  | _ :: _, _ :: _, h, n => ⟨h.1, env_start h.2 n⟩
  | [], _ :: _, h, _ => h.elim
  | _ :: _, [], h, _ => h.elim
/-- what a def hands back -/
def rW (W : Wd) (T : Typ) : V → Hp → Prop := fun v H => Ex W.B W.H0 H ∧ T.at W v H
/-- a def by its typed body -/
theorem fn_ty {x qual : Str} {st : Stmt} {f : Addr} {fd : FuncData} {N ps : List Str} {k : Nat} {α : Type} {C : α → Prop} {A : α → List Typ} {R : α → Typ} (F : Fun K x qual st f fd) (S : FnScope N ps (defScope st))
    (len : ∀ x, C x → (A x).length = ps.length)
    (hbody : ∀ (cdv : Value) (Ar : Around) (outer : List Env) (s : Shared) (H : Hp) (E : XK), Room k (Ar.deeper (envOfC qual (defScope st) s.heap.objs.size f cdv)) →
      ∃ t, PSs (cxOf (L2.CX P w) P w K mg base N qual (defScope st) f cdv Ar outer s H E).nox (defBody st) t ∧ ∀ (W : Wd) (x : α), C x → TyS W ((A x).map some ++ List.replicate (N.length - ps.length) none) t (fun _ H' => rW W (R x) .non H') (rW W (R x)) noN noN) :
    FnOk P w K mg base (L2.CX P w) (k + 1) f fd ps (spT C A R) := by
  refine okN F S (fun vs H Q E h => ?_) fun cdv Ar outer s H vs Q E hr h => ?_
  · obtain ⟨M, B, x, _, _, _, hC, h, _⟩ := h
    rw [h.length, len x hC]
  · obtain ⟨M, B, x, hs, hb, ha, hC, h, q⟩ := h
    obtain ⟨t, ht, k⟩ := hbody cdv Ar outer s H E hr
    refine ⟨t, ht, k (Wd.base M B H hs) x hC (L2.start N vs) H ⟨hb, ha, Ex.refl B H, True.intro⟩ ?_ _ (fun σ' H' _ n => q _ _ n.1 n.2) (fun v H' n => q _ _ n.1 n.2) (fun _ _ _ z => z.elim) (fun _ _ _ z => z.elim)⟩
    unfold L2.start
    have e : vs.length = ps.length := by rw [h.length, len x hC]
    rw [e]
    exact env_start h _
theorem tys_retW {W : Wd} {Γ : Gam} {te : TE} {T : Typ} {Bk Ct : Sx → Hp → Prop} (h : Ty W Γ te T) : TyS W Γ (tRet te) noN (rW W T) Bk Ct := tys_ret h fun v H c k => ⟨c.ex, k⟩
end
end Ew

end
section
set_option Elab.async false
set_option linter.all false
set_option maxRecDepth 100000
set_option maxHeartbeats 1000000
/-! EwC: operators, built-in calls, walks, comprehensions, loops, by types. -/
namespace Ew
open PySem PySem.Spec PyProof.Rows L2
/-! ### what may be one of several -/
theorem CallR.or {X : Cx} {f : Value} {r r' : List V → Hp → VK → Prop} (h : CallR X f r) (h' : CallR X f r') : CallR X f (fun xs H Q => r xs H Q ∨ r' xs H Q) := by
  intro pins s σ H xs us Q I rx q
  rcases q with q | q
  · exact h pins s σ H xs us Q I rx q
  · exact h' pins s σ H xs us Q I rx q
abbrev rAddI : R2 := rI0 fun i j => .int (i + j)
abbrev rAddStr : R2 := fun x y H Q => ∃ i j, x = .str i ∧ y = .str j ∧ i.length + j.length ≤ sizeLine ∧ Q (.str (i ++ j)) H
/-- a + b: ints, tuples, lists, texts -/
def rAddA (K : PySem.W.Frag) : R2 := fun x y H Q => rAddI x y H Q ∨ rCatA K x y H Q ∨ rCat x y H Q ∨ rAddStr x y H Q
theorem op_addA {X : Cx} : OpR X (binaryOp .Add) (rAddA X.K) := op_add.or (op_catA.or (op_cat.or op_add_str))
/-- a * b: ints (below 2 ^ 64 one of them; together below a million bits) -/
def rMulA : R2 := fun x y H Q => rI CMul (fun i j => .int (i * j)) x y H Q ∨ rI CMulW (fun i j => .int (i * j)) x y H Q
theorem op_mulA {X : Cx} : OpR X (binaryOp .Mult) rMulA := op_mul.or op_mulW
/-- a // b -/
def rDivA : R2 := fun x y H Q => rI CDivW (fun i j => .int (i / j)) x y H Q ∨ rI CDivN (fun i j => .int (i.fdiv j)) x y H Q
theorem op_divA {X : Cx} : OpR X (binaryOp .FloorDiv) rDivA := op_fdivW.or op_fdivN
/-- == at any depth -/
def rEqA (K : PySem.W.Frag) : R2 := fun x y H Q => rEq x y H Q ∨ rEqD K x y H Q
theorem op_eqA {X : Cx} (hu : X.A.units + 64 < cLine) : OpR X (compareOp .Eq) (rEqA X.K) := op_eq.or (op_eqD hu)
def rNeA (K : PySem.W.Frag) : R2 := fun x y H Q => rNe x y H Q ∨ rNeD K x y H Q
theorem op_neA {X : Cx} (hu : X.A.units + 64 < cLine) : OpR X (compareOp .NotEq) (rNeA X.K) := op_ne.or (op_neD hu)
/-- len -/
def rLen (K : PySem.W.Frag) : List V → Hp → VK → Prop := fun xs H Q => ∃ x n, xs = [x] ∧ LenV K x H n ∧ Q (.int n) H
def rLenD : List V → Hp → VK → Prop := fun xs H Q => ∃ d kvs, xs = [.ref d] ∧ H d = some (.dK kvs) ∧ Q (.int (kvs.length : Nat)) H

section
variable {W : Wd} {Γ : Gam} {K : PySem.W.Frag} {T U A C P : Typ} {Ts Us : List Typ} {i j : Int} {ds es : List PyData} {d e : PyData} {B : Addr → Prop}
theorem opt_I0 {g : Int → Int → V} {r : PyData} (h : ∀ M H, Rp M K H (g i j) r) : OpT W (rI0 g) (dt K (.int i)) (dt K (.int j)) (dt K r) := fun u v H c hu hv Q q => by
  cases hu
  cases hv
  exact ⟨i, j, rfl, rfl, q _ H (Ex.refl W.B H) (h _ _)⟩
theorem opt_I {D : Int → Int → Prop} {g : Int → Int → V} {r : PyData} (hd : D i j) (h : ∀ M H, Rp M K H (g i j) r) : OpT W (rI D g) (dt K (.int i)) (dt K (.int j)) (dt K r) := fun u v H c hu hv Q q => by
  cases hu
  cases hv
  exact ⟨i, j, rfl, rfl, hd, q _ H (Ex.refl W.B H) (h _ _)⟩
theorem opt_add : OpT W (rAddA K) (dt K (.int i)) (dt K (.int j)) (dt K (.int (i + j))) := fun u v H c hu hv Q q => .inl (opt_I0 (fun _ _ => .int _) u v H c hu hv Q q)
theorem opt_sub : OpT W (rI0 fun i j => .int (i - j)) (dt K (.int i)) (dt K (.int j)) (dt K (.int (i - j))) := opt_I0 fun _ _ => .int _
theorem opt_mul (h : CMul i j) : OpT W rMulA (dt K (.int i)) (dt K (.int j)) (dt K (.int (i * j))) := fun u v H c hu hv Q q => .inl (opt_I h (fun _ _ => .int _) u v H c hu hv Q q)
theorem opt_mulW (h : CMulW i j) : OpT W rMulA (dt K (.int i)) (dt K (.int j)) (dt K (.int (i * j))) := fun u v H c hu hv Q q => .inr (opt_I h (fun _ _ => .int _) u v H c hu hv Q q)
theorem opt_div (h : CDivW i j) : OpT W rDivA (dt K (.int i)) (dt K (.int j)) (dt K (.int (i / j))) := fun u v H c hu hv Q q => .inl (opt_I h (fun _ _ => .int _) u v H c hu hv Q q)
theorem opt_mod (h : 0 < j) : OpT W (rI (fun _ j => 0 < j) fun i j => .int (i % j)) (dt K (.int i)) (dt K (.int j)) (dt K (.int (i % j))) := opt_I h fun _ _ => .int _
theorem opt_pow (h : CPow i j) : OpT W (rI CPow fun i j => .int (i ^ j.toNat)) (dt K (.int i)) (dt K (.int j)) (dt K (.int (i ^ j.toNat))) := opt_I h fun _ _ => .int _
theorem opt_lt : OpT W (rI0 fun i j => .bl (decide (i < j))) (dt K (.int i)) (dt K (.int j)) (dt K (.bool (decide (i < j)))) := opt_I0 fun _ _ => .bl _
theorem opt_le : OpT W (rI0 fun i j => .bl (decide (i ≤ j))) (dt K (.int i)) (dt K (.int j)) (dt K (.bool (decide (i ≤ j)))) := opt_I0 fun _ _ => .bl _
theorem opt_gt : OpT W (rI0 fun i j => .bl (decide (j < i))) (dt K (.int i)) (dt K (.int j)) (dt K (.bool (decide (j < i)))) := opt_I0 fun _ _ => .bl _
theorem opt_ge : OpT W (rI0 fun i j => .bl (decide (j ≤ i))) (dt K (.int i)) (dt K (.int j)) (dt K (.bool (decide (j ≤ i)))) := opt_I0 fun _ _ => .bl _
theorem unt_neg : UnT W (rU fun i => .int (-i)) (dt K (.int i)) (dt K (.int (-i))) := fun u H c hu Q q => by
  cases hu
  exact ⟨i, rfl, q _ H (Ex.refl W.B H) (.int _)⟩
theorem opt_catT (hz : ds.length + es.length ≤ 1000000) : OpT W (rAddA K) (dt K (.tuple ds)) (dt K (.tuple es)) (dt K (.tuple (ds ++ es))) := fun u v H c hu hv Q q => by
  cases hu with
  | @tup a xs _ h1 h2 =>
    cases hv with
    | @tup b ys _ h3 h4 =>
      refine .inr (.inl ⟨a, b, xs, ys, rfl, rfl, h1, h3, by rw [h2.length, h4.length]; exact sz_le hz, fun e => ?_, fun _ e => ?_, fun _ _ p hp => ?_⟩)
      · subst e
        cases h2
        exact q _ H (Ex.refl W.B H) (.tup h3 h4)
      · subst e
        cases h4
        rw [List.append_nil] at q
        exact q _ H (Ex.refl W.B H) (.tup h1 h2)
      · exact q _ _ (Ex.new hp) (.tup (SqT.of upd_same) (RpA.up (Ex.new (B := W.B) hp).toW (h2.append h4)))
theorem opt_catL (hz : Ts.length + Us.length ≤ 1000000) : OpT W (rAddA K) (lstT Ts) (lstT Us) (lstT (Ts ++ Us)) := fun u v H c hu hv Q q => by
  obtain ⟨a, xs, rfl, ha, h1, h2⟩ := hu
  obtain ⟨b, ys, rfl, hb, h3, h4⟩ := hv
  exact .inr (.inr (.inl ⟨a, b, xs, ys, rfl, rfl, h1, h3, by rw [h2.length, h4.length]; exact sz_le hz, fun p hp => q _ _ (Ex.new hp) ⟨p, xs ++ ys, rfl, c.nm hp, upd_same, (h2.append h4).up (Ex.new (B := W.B) hp).toW⟩⟩))
theorem opt_catS {x y : Str} (hz : x.length + y.length ≤ 1000000) : OpT W (rAddA K) (dt K (.str x)) (dt K (.str y)) (dt K (.str (x ++ y))) := fun u v H c hu hv Q q => by
  cases hu
  cases hv
  exact .inr (.inr (.inr ⟨x, y, rfl, rfl, sz_le hz, q _ H (Ex.refl W.B H) (.str _)⟩))
/-! ### == -/
mutual
theorem Rp.dp {M : Addr → Prop} {H : Hp} : ∀ {v : V} {d : PyData}, Rp M K H v d → d.canLay0 = true → Dp K H v d
  | _, _, .non, _ => .non
  | _, _, .bl b, _ => .bl b
  | _, _, .int i, _ => .int i
  | _, _, .str x, _ => .str x
  | _, _, .lst h _ r, z => .lst (SqL.of h) (RpA.dp r (by simpa [PyData.canLay0] using z))
  | _, _, .tup h r, z => .tup h (RpA.dp r (by simpa [PyData.canLay0] using z))
  | _, _, .dic _ _, z => by simp [PyData.canLay0] at z
theorem RpA.dp {M : Addr → Prop} {H : Hp} : ∀ {v : List V} {d : List PyData}, RpA M K H v d → PyData.canLayAll0 d = true → DpAll K H v d
  | _, _, .nil, _ => .nil
  | _, _, .cons h r, z => by
    have z' := Bool.and_eq_true_iff.mp (show (PyData.canLay0 _ && PyData.canLayAll0 _) = true by simpa [PyData.canLayAll0] using z)
    exact .cons (Rp.dp h z'.1) (RpA.dp r z'.2)
end
theorem opt_eqD (hd : SeqAt.shaped d = true) (he : SeqAt.shaped e = true) : OpT W (rEqA K) (dt K d) (dt K e) (dt K (.bool (PyData.eqv d e))) := fun u v H c hu hv Q q =>
  .inr ⟨d, e, Rp.dp hu (SeqAt.canLay_of_shaped hd), Rp.dp hv (SeqAt.canLay_of_shaped he), hd, he, q _ H (Ex.refl W.B H) (.bl _)⟩
theorem opt_neD (hd : SeqAt.shaped d = true) (he : SeqAt.shaped e = true) : OpT W (rNeA K) (dt K d) (dt K e) (dt K (.bool (!PyData.eqv d e))) := fun u v H c hu hv Q q =>
  .inr ⟨d, e, Rp.dp hu (SeqAt.canLay_of_shaped hd), Rp.dp hv (SeqAt.canLay_of_shaped he), hd, he, q _ H (Ex.refl W.B H) (.bl _)⟩
theorem opt_eqI : OpT W (rEqA K) (dt K (.int i)) (dt K (.int j)) (dt K (.bool (decide (i = j)))) := fun u v H c hu hv Q q => by
  cases hu
  cases hv
  refine .inl ⟨rfl, q _ H (Ex.refl W.B H) ?_⟩
  have e : decide (V.int i = V.int j) = decide (i = j) := by rw [dec_int, Bool.beq_eq_decide_eq]
  rw [e]; exact .bl _
theorem opt_neI : OpT W (rNeA K) (dt K (.int i)) (dt K (.int j)) (dt K (.bool (!decide (i = j)))) := fun u v H c hu hv Q q => by
  cases hu
  cases hv
  refine .inl ⟨rfl, q _ H (Ex.refl W.B H) ?_⟩
  have e : decide (V.int i = V.int j) = decide (i = j) := by rw [dec_int, Bool.beq_eq_decide_eq]
  rw [e]; exact .bl _
theorem opt_eqB {a b : Bool} : OpT W (rEqA K) (dt K (.bool a)) (dt K (.bool b)) (dt K (.bool (decide (a = b)))) := fun u v H c hu hv Q q => by
  cases hu
  cases hv
  refine .inl ⟨rfl, q _ H (Ex.refl W.B H) ?_⟩
  have e : decide (V.bl a = V.bl b) = decide (a = b) := by rw [dec_bl, Bool.beq_eq_decide_eq]
  rw [e]; exact .bl _
theorem opt_neB {a b : Bool} : OpT W (rNeA K) (dt K (.bool a)) (dt K (.bool b)) (dt K (.bool (!decide (a = b)))) := fun u v H c hu hv Q q => by
  cases hu
  cases hv
  refine .inl ⟨rfl, q _ H (Ex.refl W.B H) ?_⟩
  have e : decide (V.bl a = V.bl b) = decide (a = b) := by rw [dec_bl, Bool.beq_eq_decide_eq]
  rw [e]; exact .bl _
theorem opt_eqS {a b : Str} : OpT W (rEqA K) (dt K (.str a)) (dt K (.str b)) (dt K (.bool (decide (a = b)))) := fun u v H c hu hv Q q => by
  cases hu
  cases hv
  refine .inl ⟨rfl, q _ H (Ex.refl W.B H) ?_⟩
  have e : decide (V.str a = V.str b) = decide (a = b) := by rw [dec_str, Bool.beq_eq_decide_eq]
  rw [e]; exact .bl _
theorem opt_neS {a b : Str} : OpT W (rNeA K) (dt K (.str a)) (dt K (.str b)) (dt K (.bool (!decide (a = b)))) := fun u v H c hu hv Q q => by
  cases hu
  cases hv
  refine .inl ⟨rfl, q _ H (Ex.refl W.B H) ?_⟩
  have e : decide (V.str a = V.str b) = decide (a = b) := by rw [dec_str, Bool.beq_eq_decide_eq]
  rw [e]; exact .bl _
/-! ### is -/
def isNoneD : PyData → Bool
  | .none => true
  | _ => false
theorem Rp.isN {M : Addr → Prop} {H : Hp} {v : V} (h : Rp M K H v d) : decide (v = .non) = isNoneD d := by
  cases h <;> rfl
theorem opt_isN : OpT W (fun x y H Q => y = .non ∧ Q (.bl (decide (x = .non))) H) (dt K d) (dt K .none) (dt K (.bool (isNoneD d))) := fun u v H c hu hv Q q => by
  cases hv
  exact ⟨rfl, q _ H (Ex.refl W.B H) (by rw [Rp.isN hu]; exact .bl _)⟩
theorem opt_notN : OpT W (fun x y H Q => y = .non ∧ Q (.bl (!decide (x = .non))) H) (dt K d) (dt K .none) (dt K (.bool (!isNoneD d))) := fun u v H c hu hv Q q => by
  cases hv
  exact ⟨rfl, q _ H (Ex.refl W.B H) (by rw [Rp.isN hu]; exact .bl _)⟩
theorem opt_isB {a b : Bool} : OpT W rIsB (dt K (.bool a)) (dt K (.bool b)) (dt K (.bool (decide (a = b)))) := fun u v H c hu hv Q q => by
  cases hu
  cases hv
  exact ⟨a, b, rfl, rfl, q _ H (Ex.refl W.B H) (.bl _)⟩
/-! ### items -/
theorem atI_RpA {M : Addr → Prop} {H : Hp} {xs : List V} (h : RpA M K H xs ds) (e : atI ds i = some d) : ∃ v, atI xs i = some v ∧ Rp M K H v d := by
  unfold atI at e ⊢
  rw [h.length]
  cases q : ixN ds.length i with
  | none => rw [q] at e; cases e
  | some n =>
    rw [q] at e
    exact h.getD e
theorem opt_ixT (e : atI ds i = some d) : OpT W (rIx K) (dt K (.tuple ds)) (dt K (.int i)) (dt K d) := fun u v H c hu hv Q q => by
  cases hv
  cases hu with
  | tup h r =>
    obtain ⟨w, h1, h2⟩ := atI_RpA r e
    exact .inr (.inl ⟨_, _, i, w, rfl, rfl, h, h1, q w H (Ex.refl W.B H) h2⟩)
theorem opt_ixL (e : atI ds i = some d) : OpT W (rIx K) (dt K (.list ds)) (dt K (.int i)) (dt K d) := fun u v H c hu hv Q q => by
  cases hv
  cases hu with
  | lst h _ r =>
    obtain ⟨w, h1, h2⟩ := atI_RpA r e
    exact .inl ⟨_, _, i, w, rfl, rfl, SqL.of h, h1, q w H (Ex.refl W.B H) h2⟩
theorem opt_ixLT {n : Nat} (e : Ts[n]? = some T) : OpT W (rIx K) (lstT Ts) (dt K (.int (n : Int))) T := fun u v H c hu hv Q q => by
  cases hv
  obtain ⟨a, xs, rfl, _, h1, h2⟩ := hu
  obtain ⟨w, h3, h4⟩ := h2.get e
  exact .inl ⟨_, _, (n : Int), w, rfl, rfl, SqL.of h1, atI_nat h3, q w H (Ex.refl W.B H) h4⟩
theorem opt_ixTT {n : Nat} (e : Ts[n]? = some T) : OpT W (rIx K) (tupT K Ts) (dt K (.int (n : Int))) T := fun u v H c hu hv Q q => by
  cases hv
  obtain ⟨a, xs, rfl, h1, h2⟩ := hu
  obtain ⟨w, h3, h4⟩ := h2.get e
  exact .inr (.inl ⟨_, _, (n : Int), w, rfl, rfl, h1, atI_nat h3, q w H (Ex.refl W.B H) h4⟩)
/-! ### calls -/
theorem cbt_len1 {n : Nat} (h : ∀ M H v, Rp M K H v d → LenV K v H n) : CbT W (rLen K) [dt K d] (dt K (.int n)) := fun us H c hu Q q => by
  obtain ⟨v, rfl⟩ : ∃ v, us = [v] := by
    match us, hu with
    | [v], _ => exact ⟨v, rfl⟩
  exact ⟨v, n, rfl, h _ _ _ hu.1, q _ H (Ex.refl W.B H) (.int _)⟩
theorem cbt_lenT : CbT W (rLen K) [dt K (.tuple ds)] (dt K (.int (ds.length : Nat))) := cbt_len1 fun M H v h => by
  cases h with
  | tup h r => exact .inr ⟨_, h, r.length.symm⟩
theorem cbt_lenL : CbT W (rLen K) [dt K (.list ds)] (dt K (.int (ds.length : Nat))) := cbt_len1 fun M H v h => by
  cases h with
  | lst h _ r => exact .inl ⟨_, SqL.of h, r.length.symm⟩
theorem cbt_lenS {x : Str} (hz : x.length ≤ 1000000) : CbT W (rLen K) [dt K (.str x)] (dt K (.int (x.length : Nat))) := cbt_len1 fun M H v h => by
  cases h
  exact ⟨sz_le hz, rfl⟩
theorem cbt_lenLT : CbT W (rLen K) [lstT Ts] (dt K (.int (Ts.length : Nat))) := fun us H c hu Q q => by
  match us, hu with
  | [v], hu =>
    obtain ⟨⟨a, xs, rfl, _, h1, h2⟩, _⟩ := hu
    exact ⟨_, Ts.length, rfl, .inl ⟨xs, SqL.of h1, h2.length.symm⟩, q _ H (Ex.refl W.B H) (.int _)⟩
def tyD : PyData → String
  | .none => "NoneType"
  | .bool _ => "bool"
  | .int _ => "int"
  | .str _ => "str"
  | .list _ => "list"
  | .tuple _ => "tuple"
  | .dict _ => "dict"
theorem Rp.ty {M : Addr → Prop} {H : Hp} {v : V} (h : Rp M K H v d) : TyX K H v (.type (tyD d)) := by
  cases h with
  | non => exact .base .non
  | bl b => exact .base (.bl b)
  | int i => exact .base (.int i)
  | str x => exact .base (.str x)
  | lst h _ _ => exact .base (.lst h)
  | tup h _ =>
    rcases h with (h | ⟨o, h⟩) | ⟨o, its, n, h1, h2, _⟩
    · exact .base (.tup h)
    · exact .fTuple h
    · exact .kTuple h1 h2
  | dic h _ => exact .base (.dK h)
/-- isinstance of data -/
def isD (d : PyData) (T : String) : Bool := tyD d == T || (tyD d == "bool" && T == "int")
theorem kit_all : (["NoneType", "bool", "int", "str", "list", "tuple", "dict"].all fun t => ["int", "bool", "str", "list", "tuple", "dict"].all fun T => kitB t T == some (t == T || (t == "bool" && T == "int"))) = true := by decide +kernel
theorem tyD_mem (d : PyData) : tyD d ∈ ["NoneType", "bool", "int", "str", "list", "tuple", "dict"] := match d with
  | .none => .head _
  | .bool _ => .tail _ (.head _)
  | .int _ => .tail _ (.tail _ (.head _))
  | .str _ => .tail _ (.tail _ (.tail _ (.head _)))
  | .list _ => .tail _ (.tail _ (.tail _ (.tail _ (.head _))))
  | .tuple _ => .tail _ (.tail _ (.tail _ (.tail _ (.tail _ (.head _)))))
  | .dict _ => .tail _ (.tail _ (.tail _ (.tail _ (.tail _ (.tail _ (.head _))))))
theorem kitD {T : String} (h : T ∈ ["int", "bool", "str", "list", "tuple", "dict"]) : PySem.W.kitOne K (.type (tyD d)) (.type T) = some (isD d T) :=
  kit_ty (beq_iff_eq.mp (List.all_eq_true.mp (List.all_eq_true.mp kit_all _ (tyD_mem d)) _ h))
theorem cbt_isi {T : String} (h : T ∈ ["int", "bool", "str", "list", "tuple", "dict"] := by decide) : CbT W (rIsi K) [dt K d, isV (.ty T)] (dt K (.bool (isD d T))) := fun us H c hu Q q => by
  match us, hu with
  | [v, t], hu =>
    obtain ⟨h1, h2, _⟩ := hu
    cases h2
    exact ⟨v, .ty T, _, .type T, _, rfl, .ty T, Rp.ty h1, kitD h, q _ H (Ex.refl W.B H) (.bl _)⟩
theorem ty_isi2 {te : TE} {T S : String} (h : Ty W Γ te (dt K d)) (hT : T ∈ ["int", "bool", "str", "list", "tuple", "dict"] := by decide) (hS : S ∈ ["int", "bool", "str", "list", "tuple", "dict"] := by decide) :
    Ty W Γ (tCB (rIsiT K) (tCons te (tCons (tTup (tCons (tC (.ty T)) (tCons (tC (.ty S)) tNil))) tNil))) (dt K (.bool (isD d T || isD d S))) := fun σ H c g Q q => by
  refine h σ H c g _ fun v H1 e1 hv => ⟨sz_le (by show 2 ≤ 1000000; decide), fun p hp => ?_⟩
  refine ⟨v, p, [.ty T, .ty S], _, [.type T, .type S], _, rfl, upd_same, .cons (.ty T) (.cons (.ty S) .nil), Rp.ty (Rp.up (Ex.new (B := W.B) hp).toW hv), ?_, q _ _ (e1.trans (Ex.new hp)) (.bl _)⟩
  refine kitAny_cons (kitD hT) (fun z => kitAny_cons (kitD hS) (fun z' => ?_) fun z' => ?_) fun z => ?_
  · rw [z, z']; exact kitAny_nil
  · rw [z, z']; rfl
  · rw [z]; rfl
end
end Ew

end
section
set_option Elab.async false
set_option linter.all false
set_option maxRecDepth 100000
set_option maxHeartbeats 1000000
/-! EwD: walks, comprehensions, loops, by types. -/
namespace Ew
open PySem PySem.Spec PyProof.Rows L2
theorem TysV.one {M B : Addr → Prop} {A : Typ} {us : List V} {H : Hp} (h : TysV M B [A] us H) : ∃ v, us = [v] ∧ A.p M B v H := by
  match us, h with
  | [v], h => exact ⟨v, rfl, h.1⟩
theorem TysV.two {M B : Addr → Prop} {A C : Typ} {us : List V} {H : Hp} (h : TysV M B [A, C] us H) : ∃ v w, us = [v, w] ∧ A.p M B v H ∧ C.p M B w H := by
  match us, h with
  | [v, w], h => exact ⟨v, w, rfl, h.1, h.2.1⟩
/-- M, or M and something new -/
def MOk (W : Wd) (H : Hp) (M' : Addr → Prop) : Prop := M' = W.M ∨ ∃ D, H D = none ∧ M' = ad W.M D
theorem MOk.tys {W : Wd} {H : Hp} {M' : Addr → Prop} (m : MOk W H M') {Ts : List Typ} {xs : List V} (h : TysV W.M W.B Ts xs H) : TysV M' W.B Ts xs H := by
  rcases m with rfl | ⟨D, n, rfl⟩
  · exact h
  · exact h.weak n
theorem MOk.nm {W : Wd} {H : Hp} {M' : Addr → Prop} (m : MOk W H M') {a : Addr} {o : HO} (h : H a = some o) (n : ¬ W.M a) : ¬ M' a := by
  rcases m with rfl | ⟨D, q, rfl⟩
  · exact n
  · exact fun z => z.elim n (ne_of_none h q)
theorem MOk.sub {W : Wd} {H : Hp} {M' : Addr → Prop} (m : MOk W H M') : ∀ a, W.B a → M' a := by
  rcases m with rfl | ⟨D, q, rfl⟩
  · exact W.sub
  · exact fun a h => .inl (W.sub a h)
/-- from H on the walk J yields values of the types Ts -/
def WalkT (W : Wd) (J : It) (Ts : List Typ) (H : Hp) : Prop := ∃ (G : Hp → Prop) (Y : Nat → Hp → V → Hp → Prop), Walk J Ts.length G Y ∧ G H ∧ ∀ M', MOk W H M' → (∀ Ha Hb, Exm M' W.B Ha Hb → G Ha → G Hb) ∧
  ∀ i Ha x Hb T, Ts[i]? = some T → Exm M' W.B H Ha → G Ha → Y i Ha x Hb → Ex W.B Ha Hb ∧ T.p M' W.B x Hb
section
variable (W : Wd) (Γ : Gam)
def TyI (wi : TI) (Ts : List Typ) : Prop := ∀ σ H, Cxt W H → EnvW W Γ σ H → ∀ R : It → Hp → Prop, (∀ J H1, Ex W.B H H1 → WalkT W J Ts H1 → R J H1) → wi σ H R
/-- a target: the slots behind it -/
def TyG (g : TG) (T : Typ) (Γ' : Gam) : Prop := ∀ v σ H, Cxt W H → EnvW W Γ σ H → T.at W v H → ∀ Q : Sx → Hp → Prop, (∀ σ' H', Ex W.B H H' → EnvW W Γ' σ' H' → Q σ' H') → g v σ H Q
def TyGs (g : TGs) (Ts : List Typ) (Γ' : Gam) : Prop := ∀ vs σ H, Cxt W H → EnvW W Γ σ H → TysV W.M W.B Ts vs H → ∀ Q : Sx → Hp → Prop, (∀ σ' H', Ex W.B H H' → EnvW W Γ' σ' H' → Q σ' H') → g vs σ H Q
end
/-- the target changes slots of vs alone; what is asked may be weakened -/
structure GOk (g : TG) (vs : List Nat) : Prop where
  kept : ∀ v σ H Q, g v σ H Q → g v σ H fun σ' H' => L2.wipe σ' vs = L2.wipe σ vs ∧ Q σ' H'
  mono : ∀ v σ H (Q Q' : Sx → Hp → Prop), (∀ σ' H', Q σ' H' → Q' σ' H') → g v σ H Q → g v σ H Q'
structure GsOk (g : TGs) (vs : List Nat) : Prop where
  kept : ∀ v σ H Q, g v σ H Q → g v σ H fun σ' H' => L2.wipe σ' vs = L2.wipe σ vs ∧ Q σ' H'
  mono : ∀ v σ H (Q Q' : Sx → Hp → Prop), (∀ σ' H', Q σ' H' → Q' σ' H') → g v σ H Q → g v σ H Q'
theorem wipe_set {i : Nat} {x : Option V} : ∀ {vs : List Nat} {σ : Sx}, i ∈ vs → L2.wipe (σ.set i x) vs = L2.wipe σ vs
  | [], _, h => by cases h
  | v :: vs, σ, h => by
    show (L2.wipe (σ.set i x) vs).set v none = (L2.wipe σ vs).set v none
    by_cases e : i ∈ vs
    · rw [wipe_set e]
    · have ev : i = v := by
        rcases List.mem_cons.mp h with z | z
        · exact z
        · exact absurd z e
      subst ev
      have comm : ∀ {ws : List Nat} {τ : Sx}, i ∉ ws → L2.wipe (τ.set i x) ws = (L2.wipe τ ws).set i x := by
        intro ws
        induction ws with
        | nil => intro τ _; rfl
        | cons w ws ih =>
          intro τ hn
          have h1 : i ≠ w := fun z => hn (by rw [z]; exact List.mem_cons_self ..)
          have h2 : i ∉ ws := fun z => hn (List.mem_cons_of_mem _ z)
          show (L2.wipe (τ.set i x) ws).set w none = ((L2.wipe τ ws).set w none).set i x
          rw [ih h2, List.set_comm _ _ h1]
      rw [comm e, List.set_set]
theorem wipe_wipe {σ : Sx} {vs : List Nat} : ∀ {ws : List Nat}, (∀ v ∈ ws, v ∈ vs) → L2.wipe (L2.wipe σ ws) vs = L2.wipe σ vs
  | [], _ => rfl
  | w :: ws, h => by
    show L2.wipe ((L2.wipe σ ws).set w none) vs = _
    rw [wipe_set (h w (List.mem_cons_self ..)), wipe_wipe fun v hv => h v (List.mem_cons_of_mem _ hv)]
section
variable {W : Wd} {Γ Γ' : Gam} {K : PySem.W.Frag} {T U A C P : Typ} {Ts Us : List Typ} {ds : List PyData} {d : PyData} {ta : TA} {te : TE} {g : TG} {gs : TGs} {vs : List Nat}
theorem gok_name (i : Nat) (h : i ∈ vs) : GOk (gName i) vs := ⟨fun v σ H Q q => ⟨wipe_set h, q⟩, fun _ _ _ _ _ h q => h _ _ q⟩
theorem gok_nil : GsOk gNil vs := ⟨fun v σ H Q ⟨h, q⟩ => ⟨h, rfl, q⟩, fun _ _ _ _ _ h q => ⟨q.1, h _ _ q.2⟩⟩
theorem gok_cons (h : GOk g vs) (k : GsOk gs vs) : GsOk (gCons g gs) vs :=
  ⟨fun v σ H Q ⟨x, r, e, q⟩ => ⟨x, r, e, h.mono _ _ _ _ _ (fun σ1 H1 ⟨w1, z⟩ => k.mono _ _ _ _ _ (fun σ2 H2 ⟨w2, z2⟩ => ⟨w2.trans w1, z2⟩) (k.kept _ _ _ _ z)) (h.kept _ _ _ _ q)⟩,
    fun v σ H Q Q' hq ⟨x, r, e, q⟩ => ⟨x, r, e, h.mono _ _ _ _ _ (fun σ' H' z => k.mono _ _ _ _ _ hq z) q⟩⟩
theorem gok_tup {n : Nat} (h : GsOk gs vs) : GOk (gTup K n gs) vs := ⟨fun v σ H Q ⟨a, xs, e, s, l, q⟩ => ⟨a, xs, e, s, l, h.kept _ _ _ _ q⟩, fun v σ H Q Q' hq ⟨a, xs, e, s, l, q⟩ => ⟨a, xs, e, s, l, h.mono _ _ _ _ _ hq q⟩⟩
theorem gok_unl {n : Nat} (h : GsOk gs vs) : GOk (gUnl K n gs) vs := ⟨fun v σ H Q ⟨a, xs, e, s, l, q⟩ => ⟨a, xs, e, s, l, h.kept _ _ _ _ q⟩, fun v σ H Q Q' hq ⟨a, xs, e, s, l, q⟩ => ⟨a, xs, e, s, l, h.mono _ _ _ _ _ hq q⟩⟩
theorem tyg_name (i : Nat) : TyG W Γ (gName i) T (Γ.set i (some T)) := fun v σ H c g hv Q q => q _ H (Ex.refl _ _) (EnvL.set hv g)
theorem tygs_nil : TyGs W Γ gNil [] Γ := fun vs σ H c g hv Q q => by
  match vs, hv with
  | [], _ => exact ⟨rfl, q _ _ (Ex.refl _ _) g⟩
theorem tygs_cons {Γ1 Γ2 : Gam} (h : TyG W Γ g T Γ1) (k : TyGs W Γ1 gs Ts Γ2) : TyGs W Γ (gCons g gs) (T :: Ts) Γ2 := fun vs σ H c e hv Q q => by
  match vs, hv with
  | v :: vs, hv => exact ⟨v, vs, rfl, h v σ H c e hv.1 _ fun σ1 H1 e1 g1 => k vs σ1 H1 (c.up e1) g1 (hv.2.up e1.toW) Q fun σ2 H2 e2 g2 => q σ2 H2 (e1.trans e2) g2⟩
theorem tyg_tup {n : Nat} (h : TyGs W Γ gs Ts Γ') (hn : Ts.length = n := by rfl) : TyG W Γ (gTup K n gs) (tupT K Ts) Γ' := fun v σ H c g ⟨a, xs, h1, h2, h3⟩ Q q => ⟨a, xs, h1, h2, by rw [h3.length, hn], h xs σ H c g h3 Q q⟩
theorem tyg_unl {n : Nat} (h : TyGs W Γ gs Ts Γ') (hn : Ts.length = n := by rfl) : TyG W Γ (gUnl K n gs) (lstT Ts) Γ' := fun v σ H c g ⟨a, xs, h1, h0, h2, h3⟩ Q q => ⟨a, xs, h1, SqL.of h2, by rw [h3.length, hn], h xs σ H c g h3 Q q⟩
theorem TyG.sub (h : TyG W Γ g T Γ') (k : ∀ v H, U.at W v H → T.at W v H) : TyG W Γ g U Γ' := fun v σ H c e hv Q q => h v σ H c e (k v H hv) Q q
/-! ### what is walked -/
/-- over a tuple -/
theorem tyi_tup (h : Ty W Γ te (tupT K Ts)) : TyI W Γ (iTup K te) Ts := fun σ H c g R q => h σ H c g _ fun v H1 e ⟨a, xs, h1, h2, h3⟩ => by
  subst h1
  refine ⟨a, rfl, ⟨xs, h2⟩, q _ H1 e ⟨fun H => SqT K H a xs, YAt xs, by rw [← h3.length]; exact walk_tup, h2, fun M' m => ⟨fun Ha Hb f z => f.sqT z, fun i Ha x Hb T hT f z y => ?_⟩⟩⟩
  obtain ⟨rfl, y⟩ := y
  obtain ⟨w, h4, h5⟩ := (m.tys h3).get hT
  rw [h4] at y; cases y
  exact ⟨Ex.refl _ _, T.up f h5⟩
theorem tyi_tupD (h : Ty W Γ te (dt K (.tuple ds))) : TyI W Γ (iTup K te) (ds.map (dt K)) := tyi_tup (h.sub fun _ _ _ => data_tupT)
/-- over a list that stays -/
theorem tyi_lst (h : Ty W Γ te (lstT Ts)) : TyI W Γ (iList K te) Ts := fun σ H c g R q => h σ H c g _ fun v H1 e ⟨a, xs, h1, h0, h2, h3⟩ => by
  subst h1
  refine ⟨a, rfl, ⟨xs, SqL.of h2⟩, q _ H1 e ⟨fun H => SqL K H a xs, YAt xs, by rw [← h3.length]; exact walk_list, SqL.of h2, fun M' m => ⟨fun Ha Hb f z => f.sqL (m.nm h2 h0) z, fun i Ha x Hb T hT f z y => ?_⟩⟩⟩
  obtain ⟨rfl, y⟩ := y
  obtain ⟨w, h4, h5⟩ := (m.tys h3).get hT
  rw [h4] at y; cases y
  exact ⟨Ex.refl _ _, T.up f h5⟩
theorem tyi_lstD (h : Ty W Γ te (dt K (.list ds))) : TyI W Γ (iList K te) (ds.map (dt K)) := tyi_lst (h.sub fun _ _ _ => data_lstT)
theorem range_map_get {f : Nat → Typ} {n i : Nat} {T : Typ} (h : ((List.range n).map f)[i]? = some T) : i < n ∧ T = f i := by
  rw [List.getElem?_map] at h
  cases hr : (List.range n)[i]? with
  | none => rw [hr] at h; cases h
  | some k =>
    rw [hr] at h
    obtain ⟨hl, ek⟩ := List.getElem?_eq_some_iff.mp hr
    rw [List.getElem_range] at ek
    subst ek
    rw [List.length_range] at hl
    cases h
    exact ⟨hl, rfl⟩
/-- range(n) -/
theorem tyi_rng1 {n : Int} (h : TyA W Γ ta [dt K (.int n)]) (hn : n ≤ 1000000000) (h0 : -1000000000 ≤ n) : TyI W Γ (iRng1 ta) ((List.range n.toNat).map fun i => dt K (.int (i : Nat))) := fun σ H c g R q => h σ H c g _ fun us H1 e hu => by
  obtain ⟨v, rfl, h1⟩ := hu.one
  cases h1
  refine ⟨n, rfl, by omega, by omega, q _ H1 e ⟨fun _ => True, YFn fun i => .int (0 + i), by rw [List.length_map, List.length_range]; exact walk_range, True.intro, fun M' m => ⟨fun _ _ _ _ => True.intro, fun i Ha x Hb T hT f z y => ?_⟩⟩⟩
  obtain ⟨rfl, y⟩ := y
  obtain ⟨hl, rfl⟩ := range_map_get hT
  subst y
  refine ⟨Ex.refl _ _, ?_⟩
  show Rp M' K Hb (V.int (0 + (i : Int))) (.int (i : Int))
  rw [Int.zero_add]
  exact .int _
/-- enumerate(list) -/
theorem tyi_enumL (h : TyA W Γ ta [lstT Ts]) : TyI W Γ (iEnum K ta) ((List.range Ts.length).map fun i => tupT K [dt K (.int (i : Nat)), Ts.getD i (isV .non)]) := fun σ H c g R q => h σ H c g _ fun us H1 e hu => by
  obtain ⟨v, rfl, a, xs, rfl, h0, h2, h3⟩ := hu.one
  refine ⟨a, xs, rfl, SqL.of h2, q _ H1 e ⟨fun H => SqL K H a xs, YPair (fun i => some (.int (i : Nat))) (fun i => xs[i]?), by rw [List.length_map, List.length_range, ← h3.length]; exact walk_enum, SqL.of h2, fun M' m => ⟨fun Ha Hb f z => f.sqL (m.nm h2 h0) z, fun i Ha x Hb T hT f z y => ?_⟩⟩⟩
  obtain ⟨Tp, x0, y0, rfl, hn, rfl, ex, ey⟩ := y
  cases ex
  obtain ⟨hl, rfl⟩ := range_map_get hT
  obtain ⟨w, h4, h5⟩ := (m.tys h3).get (List.getElem?_eq_getElem hl)
  have ey' := h4.symm.trans ey
  cases ey'
  refine ⟨Ex.new hn, Tp, _, rfl, SqT.of upd_same, .int _, ?_, True.intro⟩
  show (Ts.getD i (isV .non)).p M' W.B y0 _
  rw [List.getD_eq_getElem?_getD, List.getElem?_eq_getElem hl]
  exact Typ.up _ (f.trans ((Ex.new (B := W.B) hn).toM m.sub)) h5
theorem zip_len {a b x y : Nat} (h : a = x) (k : b = y) : min x y = min a b := by rw [h, k]
theorem walk_zipT {a b : Addr} {xs ys : List V} {n : Nat} (hn : n = min xs.length ys.length) : Walk (RZ.ItzT K a b) n (fun H => SqT K H a xs ∧ SqT K H b ys) (YPair (fun i => xs[i]?) (fun i => ys[i]?)) := by
  subst hn
  refine ⟨fun i _ hi q => ?_, fun _ q => ⟨xs, ys, q.1, q.2, by omega⟩, fun i H v H' _ q y => ?_⟩
  · have h1 : i < xs.length := by omega
    have h2 : i < ys.length := by omega
    exact ⟨xs, ys, xs[i], ys[i], q.1, q.2, by simp [h1], by simp [h2]⟩
  · obtain ⟨T, x, z, h1, h2, h3, h4, h5⟩ := y
    exact ⟨T, x, z, h1, h2, h3, h4 xs q.1, h5 ys q.2⟩
theorem zip_map_get {i : Nat} {f : Typ × Typ → Typ} (h : ((Ts.zip Us).map f)[i]? = some T) : ∃ A C, Ts[i]? = some A ∧ Us[i]? = some C ∧ T = f (A, C) := by
  rw [List.getElem?_map] at h
  cases hr : (Ts.zip Us)[i]? with
  | none => rw [hr] at h; cases h
  | some p =>
    rw [hr] at h
    cases h
    obtain ⟨q1, q2⟩ := List.getElem?_zip_eq_some.mp hr
    exact ⟨_, _, q1, q2, rfl⟩
/-- zip of two tuples -/
theorem tyi_zipT (h : TyA W Γ ta [tupT K Ts, tupT K Us]) : TyI W Γ (RZ.iZipA K ta) ((Ts.zip Us).map fun p => tupT K [p.1, p.2]) := fun σ H c g R q => h σ H c g _ fun us H1 e hu => by
  obtain ⟨v, w, rfl, ⟨a, xs, rfl, h2, h3⟩, ⟨b, ys, rfl, h4, h5⟩⟩ := hu.two
  refine ⟨a, b, xs, ys, rfl, .inr ⟨h2, h4, q _ H1 e ⟨fun H => SqT K H a xs ∧ SqT K H b ys, YPair (fun i => xs[i]?) (fun i => ys[i]?), ?_, ⟨h2, h4⟩, fun M' m => ⟨fun Ha Hb f z => ⟨f.sqT z.1, f.sqT z.2⟩, fun i Ha x Hb T hT f z y => ?_⟩⟩⟩⟩
  · refine walk_zipT ?_
    rw [List.length_map, List.length_zip]
    exact zip_len h3.length h5.length
  · obtain ⟨Tp, x0, y0, rfl, hn, rfl, ex, ey⟩ := y
    obtain ⟨A, C, q1, q2, rfl⟩ := zip_map_get hT
    obtain ⟨x1, e1, r1⟩ := (m.tys h3).get q1
    obtain ⟨y1, e2, r2⟩ := (m.tys h5).get q2
    have ex' := e1.symm.trans ex
    cases ex'
    have ey' := e2.symm.trans ey
    cases ey'
    exact ⟨Ex.new hn, Tp, _, rfl, SqT.of upd_same, Typ.up _ (f.trans ((Ex.new (B := W.B) hn).toM m.sub)) r1, Typ.up _ (f.trans ((Ex.new (B := W.B) hn).toM m.sub)) r2, True.intro⟩
theorem filter_range_succ {f : Nat → Bool} {F : Nat → Typ} {n : Nat} : ((List.range (n + 1)).filter f).map F = ((List.range n).filter f).map F ++ (if f n = true then [F n] else []) := by
  rw [List.range_succ, List.filter_append, List.map_append]
  congr 1
  cases h : f n <;> simp [h]
theorem filter_range_len {f : Nat → Bool} {F : Nat → Typ} (n : Nat) : (((List.range n).filter f).map F).length ≤ n := by
  rw [List.length_map]
  exact Nat.le_trans (List.length_filter_le _ _) (by rw [List.length_range]; exact Nat.le_refl _)
/-! ### comprehensions -/
theorem tyl_lc {wi : TI} {tt : TT} (f : Nat → Bool) (F : Nat → Typ) (hi : TyI W Γ wi Ts) (hz : Ts.length ≤ 1000000) (gk : GOk g vs)
    (hs : ∀ (W' : Wd) i T, Ts[i]? = some T → ∃ Γi, TyG W' (wipeG Γ vs) g T Γi ∧ Tt W' Γi tt (· = f i) ∧ (f i = true → Ty W' Γi te (F i))) :
    TyL W Γ (tLc wi g tt te vs) (((List.range Ts.length).filter f).map F) := fun σ H c e Q q => by
  refine hi σ H c e _ fun J H1 e1 hw => ?_
  intro D hD
  obtain ⟨G, Y, w, hG, hup⟩ := hw
  obtain ⟨hup, hy⟩ := hup (W.ad D).M (.inr ⟨D, hD, rfl⟩)
  have c1 := c.up e1
  have bD : ¬ W.B D := c1.nb hD
  have toD : ∀ {Ha Hb : Hp}, Ex W.B Ha Hb → Exm (W.ad D).M W.B Ha Hb := fun z => Ex.toW (W := W.ad D) z
  have cD : ∀ {H2 : Hp}, Ex W.B H1 H2 → H2 D ≠ none → Cxt (W.ad D) H2 := fun {H2} e2 n => ⟨(c1.up e2).box, fun a h z => by
    rcases h with h | h
    · exact (c1.up e2).al a h z
    · rw [h] at z; exact n z, (c1.up e2).ex, (c1.up e2).own⟩
  have env1 : EnvL (W.ad D).M W.B Γ σ H1 := EnvL.weak hD (e.up e1.toW)
  refine lc_it w (fun i H2 => Ex W.B H1 H2 ∧ G H2 ∧ ∃ acc, H2 D = some (.lst acc) ∧ TysV (W.ad D).M W.B (((List.range i).filter f).map F) acc H2) ?_ (fun i H2 _ h => h.2.1) ?_ ?_
  · exact ⟨Ex.new hD, hup _ _ (toD (Ex.new hD)) hG, [], upd_same, True.intro⟩
  · rintro i x H2 H3 hi ⟨e2, hG2, acc, hacc, ht⟩ hx
    have hT : Ts[i]? = some (Ts[i]'hi) := List.getElem?_eq_getElem hi
    obtain ⟨e3, hxt⟩ := hy i H2 x H3 _ hT (toD e2) hG2 hx
    obtain ⟨Γi, k1, k2, k3⟩ := hs (W.ad D) i _ hT
    have d3 : H3 D = some (.lst acc) := e3.keep hacc bD
    have some_ne : ∀ {Hx : Hp} {o : HO}, Hx D = some o → Hx D ≠ none := fun h z => by rw [h] at z; cases z
    have env3 : EnvL (W.ad D).M W.B (wipeG Γ vs) (L2.wipe σ vs) H3 := (env1.up (toD (e2.trans e3))).wipe vs
    refine gk.mono _ _ _ _ _ ?_ (gk.kept _ _ _ _ (k1 x _ H3 (cD (e2.trans e3) (some_ne d3)) env3 hxt (fun σ4 H4 => Ex W.B H3 H4 ∧ EnvL (W.ad D).M W.B Γi σ4 H4) fun σ4 H4 e4 g4 => ⟨e4, g4⟩))
    rintro σ4 H4 ⟨w4, e4, g4⟩
    refine ⟨w4.trans (wipe_wipe fun _ h => h) |>.trans (wipe_wipe fun _ h => h).symm |>.trans (wipe_wipe fun _ h => h), ?_⟩
    have d4 : H4 D = some (.lst acc) := e4.keep d3 bD
    have e24 := e2.trans (e3.trans e4)
    refine k2 σ4 H4 (cD e24 (some_ne d4)) g4 _ fun b H5 e5 hb => ?_
    have e5' : Ex W.B H4 H5 := e5
    have d5 : H5 D = some (.lst acc) := e5'.keep d4 bD
    have lacc : acc.length ≤ i := by rw [ht.length]; exact filter_range_len i
    have e25 := (e3.trans e4).trans e5'
    cases b with
    | true =>
      rw [if_pos rfl]
      refine k3 hb.symm σ4 H5 (cD (e24.trans e5') (some_ne d5)) (g4.up (toD e5')) _ fun y H6 e6 hy6 => ?_
      have e6' : Ex W.B H5 H6 := e6
      have d6 : H6 D = some (.lst acc) := e6'.keep d5 bD
      have put : Exm (W.ad D).M W.B H6 (upd H6 D (.lst (acc ++ [y]))) := Exm.put (.inr rfl) bD d6
      refine ⟨acc, d6, sz_lt (by omega), ((e24.trans e5').trans e6').mut hD, hup _ _ put (hup _ _ (toD (e25.trans e6')) hG2), acc ++ [y], upd_same, ?_⟩
      rw [filter_range_succ, ← hb, if_pos rfl]
      exact ((ht.up (toD (e25.trans e6'))).append (show TysV (W.ad D).M W.B [F i] [y] H6 from ⟨hy6, True.intro⟩)).up put
    | false =>
      rw [if_neg Bool.false_ne_true]
      refine ⟨e24.trans e5', hup _ _ (toD e25) hG2, acc, d5, ?_⟩
      rw [filter_range_succ, ← hb, if_neg Bool.false_ne_true, List.append_nil]
      exact ht.up (toD e25)
  · rintro H2 ⟨e2, hG2, acc, hacc, ht⟩
    exact q D acc H2 (e1.trans e2) (e1.free hD) hacc ht.drop
theorem filter_yes {n : Nat} : (List.range n).filter (fun _ => true) = List.range n := List.filter_eq_self.mpr fun _ _ => rfl
/-- without a test -/
theorem tyl_lc1 {wi : TI} (F : Nat → Typ) (hi : TyI W Γ wi Ts) (hz : Ts.length ≤ 1000000) (gk : GOk g vs)
    (hs : ∀ (W' : Wd) i T, Ts[i]? = some T → ∃ Γi, TyG W' (wipeG Γ vs) g T Γi ∧ Ty W' Γi te (F i)) :
    TyL W Γ (tLc wi g tYes te vs) ((List.range Ts.length).map F) := by
  have h := tyl_lc (tt := tYes) (fun _ => true) F hi hz gk fun W' i T hT => by
    obtain ⟨Γi, h1, h2⟩ := hs W' i T hT
    exact ⟨Γi, h1, fun σ H c e Q q => q true H (Ex.refl _ _) rfl, fun _ => h2⟩
  rw [filter_yes] at h
  exact h
/-! ### loops -/
variable {N : Sx → Hp → Prop} {R : V → Hp → Prop} {Bk Ct : Sx → Hp → Prop}
/-- for: before turn i the slots are Γi i x in the world Wi i x, for some x -/
theorem tys_for {α : Type} {wi : TI} {tb : TS} (Wi : Nat → α → Wd) (Γi : Nat → α → Gam) (x0 : α) (hi : TyI W Γ wi Ts) (like : ∀ i x, W.Like (Wi i x)) (h0 : ∀ σ H, nE W Γ σ H → nE (Wi 0 x0) (Γi 0 x0) σ H)
    (hs : ∀ i T x, Ts[i]? = some T → ∃ Γt, TyG (Wi i x) (Γi i x) g T Γt ∧ TyS (Wi i x) Γt tb (fun σ H => ∃ y, nE (Wi (i + 1) y) (Γi (i + 1) y) σ H) R N (fun σ H => ∃ y, nE (Wi (i + 1) y) (Γi (i + 1) y) σ H))
    (hd : ∀ x σ H, nE (Wi Ts.length x) (Γi Ts.length x) σ H → N σ H) : TyS W Γ (tFor wi g tb) N R Bk Ct := fun σ H c e D dn dr db dc => by
  refine hi σ H c e _ fun J H1 e1 hw => ?_
  obtain ⟨G, Y, w, hG, hup⟩ := hw
  obtain ⟨hup, hy⟩ := hup W.M (.inl rfl)
  refine for_it w (D := D) (fun i σ2 H2 => Exm W.M W.B H1 H2 ∧ G H2 ∧ ∃ x, nE (Wi i x) (Γi i x) σ2 H2) ?_ (fun i σ2 H2 _ h => h.2.1) ?_ ?_
  · exact ⟨Exm.refl _ _ _, hG, x0, h0 σ H1 ⟨c.up e1, e.up e1.toW⟩⟩
  · rintro i v σ2 H2 H3 hi ⟨e2, hG2, x, c2, g2⟩ hx
    have hT : Ts[i]? = some (Ts[i]'hi) := List.getElem?_eq_getElem hi
    obtain ⟨e3, hxt⟩ := hy i H2 v H3 _ hT e2 hG2 hx
    obtain ⟨Γt, k1, k2⟩ := hs i _ x hT
    have l := like i x
    have e3' : Ex (Wi i x).B H2 H3 := by rw [l.b]; exact e3
    have hxt' : (Ts[i]'hi).at (Wi i x) v H3 := by show Typ.p _ _ _ _ _; rw [l.m, l.b]; exact hxt
    refine k1 v σ2 H3 (c2.up e3') (g2.up e3'.toW) hxt' _ fun σ4 H4 e4 g4 => ?_
    have e4b : Ex W.B H3 H4 := by rw [← l.b]; exact e4
    have e24 : Exm W.M W.B H2 H4 := (e3.trans e4b).toW
    refine k2 σ4 H4 ((c2.up e3').up e4) g4 _ (fun σ5 H5 e5 n5 => ⟨e2.trans (e24.trans (l.exm e5)), hup _ _ (e24.trans (l.exm e5)) hG2, n5⟩) dr (fun σ5 H5 e5 n5 => dn σ5 H5 (e1.toW.trans (e2.trans (e24.trans (l.exm e5)))) n5)
      (fun σ5 H5 e5 n5 => ⟨e2.trans (e24.trans (l.exm e5)), hup _ _ (e24.trans (l.exm e5)) hG2, n5⟩)
  · rintro σ2 H2 ⟨e2, hG2, x, n2⟩
    exact dn σ2 H2 (e1.toW.trans e2) (hd x σ2 H2 n2)
/-! ### calls that take a list -/
theorem lst_sq {M B : Addr → Prop} {v : V} {H : Hp} (h : (lstT Ts).p M B v H) : ∃ a xs, v = .ref a ∧ SqL K H a xs ∧ TysV M B Ts xs H := by
  obtain ⟨a, xs, h1, _, h2, h3⟩ := h
  exact ⟨a, xs, h1, SqL.of h2, h3⟩
theorem tys_ints {M B : Addr → Prop} {H : Hp} : ∀ {ns : List Int} {xs : List V}, TysV M B (ns.map fun n => dt K (.int n)) xs H → xs = ns.map V.int
  | [], [], _ => rfl
  | n :: ns, x :: xs, h => by
    obtain ⟨h1, h2⟩ := h
    cases h1
    rw [tys_ints h2, List.map_cons]
  | [], _ :: _, h => h.elim
  | _ :: _, [], h => h.elim
theorem tys_bools {M B : Addr → Prop} {H : Hp} : ∀ {bs : List Bool} {xs : List V}, TysV M B (bs.map fun b => dt K (.bool b)) xs H → xs = bs.map V.bl
  | [], [], _ => rfl
  | n :: ns, x :: xs, h => by
    obtain ⟨h1, h2⟩ := h
    cases h1
    rw [tys_bools h2, List.map_cons]
  | [], _ :: _, h => h.elim
  | _ :: _, [], h => h.elim
theorem cbt_sum {ns : List Int} : CbT W (rSum K) [lstT (ns.map fun n => dt K (.int n))] (dt K (.int ns.sum)) := fun us H c hu Q q => by
  obtain ⟨v, rfl, h⟩ := hu.one
  obtain ⟨a, xs, rfl, h1, h2⟩ := lst_sq (K := K) h
  have e := tys_ints h2
  subst e
  exact ⟨a, ns, rfl, h1, q _ H (Ex.refl _ _) (.int _)⟩
theorem cbt_all {bs : List Bool} : CbT W (rAll K) [lstT (bs.map fun b => dt K (.bool b))] (dt K (.bool (bs.all id))) := fun us H c hu Q q => by
  obtain ⟨v, rfl, h⟩ := hu.one
  obtain ⟨a, xs, rfl, h1, h2⟩ := lst_sq (K := K) h
  have e := tys_bools h2
  subst e
  exact ⟨a, bs, rfl, h1, q _ H (Ex.refl _ _) (.bl _)⟩
theorem cbt_max {ns : List Int} (hn : ns ≠ []) : CbT W (rMax K) [lstT (ns.map fun n => dt K (.int n))] (exT fun m : Int => gd (m ∈ ns ∧ ∀ y, y ∈ ns → y ≤ m) (dt K (.int m))) := fun us H c hu Q q => by
  obtain ⟨v, rfl, h⟩ := hu.one
  obtain ⟨a, xs, rfl, h1, h2⟩ := lst_sq (K := K) h
  have e := tys_ints h2
  subst e
  exact ⟨a, ns, rfl, h1, List.length_pos_iff.mpr hn, fun m m1 m2 => q _ H (Ex.refl _ _) ⟨m, ⟨m1, m2⟩, .int _⟩⟩
def rTupOf (K : PySem.W.Frag) : List V → Hp → VK → Prop := fun xs H Q => ∃ p ys, xs = [.ref p] ∧ ((SqL K H p ys ∧ ∀ l, H l = none → Q (.ref l) (upd H l (.tup ys))) ∨ (SqT K H p ys ∧ Q (.ref p) H))
theorem cbt_tupL : CbT W (rTupOf K) [lstT Ts] (tupT K Ts) := fun us H c hu Q q => by
  obtain ⟨v, rfl, h⟩ := hu.one
  obtain ⟨a, xs, rfl, h1, h2⟩ := lst_sq (K := K) h
  exact ⟨a, xs, rfl, .inl ⟨h1, fun l hl => q _ _ (Ex.new hl) ⟨l, xs, rfl, SqT.of upd_same, h2.up (Ex.new (B := W.B) hl).toW⟩⟩⟩
theorem cbt_tupT : CbT W (rTupOf K) [tupT K Ts] (tupT K Ts) := fun us H c hu Q q => by
  obtain ⟨v, rfl, a, xs, rfl, h1, h2⟩ := hu.one
  exact ⟨a, xs, rfl, .inr ⟨h1, q _ _ (Ex.refl _ _) ⟨a, xs, rfl, h1, h2⟩⟩⟩
def rLstOf (K : PySem.W.Frag) : List V → Hp → VK → Prop := fun xs H Q => ∃ p ys, xs = [.ref p] ∧ (SqL K H p ys ∨ SqT K H p ys) ∧ ∀ l, H l = none → Q (.ref l) (upd H l (.lst ys))
theorem cbl_lstL : CbL W (rLstOf K) [lstT Ts] Ts := fun us H c hu Q q => by
  obtain ⟨v, rfl, h⟩ := hu.one
  obtain ⟨a, xs, rfl, h1, h2⟩ := lst_sq (K := K) h
  exact ⟨a, xs, rfl, .inl h1, fun l hl => q l xs _ (Ex.new hl) hl upd_same (h2.up (Ex.new (B := W.B) hl).toW)⟩
theorem cbl_lstT : CbL W (rLstOf K) [tupT K Ts] Ts := fun us H c hu Q q => by
  obtain ⟨v, rfl, a, xs, rfl, h1, h2⟩ := hu.one
  exact ⟨a, xs, rfl, .inr h1, fun l hl => q l xs _ (Ex.new hl) hl upd_same (h2.up (Ex.new (B := W.B) hl).toW)⟩
/-- tuple([..]) -/
theorem ty_tupOf (h : TyL W Γ te Ts) : Ty W Γ (tCB (rTupOf K) (tCons te tNil)) (tupT K Ts) := ty_cb (tya_cons h.ty tya_nil) cbt_tupL
theorem ty_sumOf {ns : List Int} (h : TyL W Γ te (ns.map fun n => dt K (.int n))) : Ty W Γ (tCB (rSum K) (tCons te tNil)) (dt K (.int ns.sum)) := ty_cb (tya_cons h.ty tya_nil) cbt_sum
theorem ty_allOf {bs : List Bool} (h : TyL W Γ te (bs.map fun b => dt K (.bool b))) : Ty W Γ (tCB (rAll K) (tCons te tNil)) (dt K (.bool (bs.all id))) := ty_cb (tya_cons h.ty tya_nil) cbt_all
end
end Ew

end
section
set_option Elab.async false
set_option linter.all false
set_option maxRecDepth 100000
set_option maxHeartbeats 1000000
/-! EwG: short words for derivations. -/
namespace Ew
open PySem PySem.Spec PyProof.Rows L2
section
variable {X : Cx} {e : Expr} {es : List Expr} {t : TA} {p pos : Pos} {te : TE}
/-- what the text says of a def -/
structure Defn (K : PySem.W.Frag) (mg : Str → Option Value) (x : Str) (f : Addr) (fd : FuncData) (ps : List Str) : Prop where
  g : mg x = some (.ref f)
  k : PySem.W.keepIn K (.ref f) = true
  b : Binds K fd ps []
/-- a name as a target -/
theorem pgn (i : Nat) {x : Str} (nd : X.N.Nodup) (hi : X.N[i]? = some x := by rfl) (hx : Loc X.env.scope x := by first | exact Or.inl rfl | exact Or.inr rfl)
    (hf : X.fn x = true ∨ X.env.scope.names.lookup x = some .local := by first | exact .inl rfl | exact .inr rfl) : PG X (.Name x pos) (gName i) := pg_name nd hi hx hf
/-- x = e -/
theorem pset (i : Nat) {x : Str} {pos' : Pos} (nd : X.N.Nodup) (he : PE X e te) (hi : X.N[i]? = some x := by rfl) (hx : Loc X.env.scope x := by first | exact Or.inl rfl | exact Or.inr rfl) (hs : swapsWith e (some (.Name x pos')) pos.line X.env = pure false := by rfl)
    (hf : X.fn x = true ∨ X.env.scope.names.lookup x = some .local := by first | exact .inl rfl | exact .inr rfl) : PS X (.Assign [.Name x pos'] e pos) (tAsg te (gName i)) := ps_set nd hi hx he hs hf
/-- x = [.. for ..], x no cell -/
theorem psetLc (i : Nat) {y : Str} {py spos : Pos} {elt tg iter : Expr} {ifs : List Expr} {scope : Scope} (own : List (Str × Nat)) {wi : TI} {g : TG} {tt : TT} (nd : X.N.Nodup) (hi : PI X tg iter wi)
    (hg : ∀ (s : Shared) (H : Hp) (C : Addr) (cl : List (Str × Addr)) (fp : List Addr), PG (X.blk s H scope (compEnvC scope cl C X.env) fp) tg g) (ht : ∀ (s : Shared) (H : Hp) (C : Addr) (cl : List (Str × Addr)) (fp : List Addr), PTs (X.blk s H scope (compEnvC scope cl C X.env) fp) ifs tt)
    (he : ∀ (s : Shared) (H : Hp) (C : Addr) (cl : List (Str × Addr)) (fp : List Addr), PE (X.blk s H scope (compEnvC scope cl C X.env) fp) elt te)
    (ok : blkC X.N X.env.scope scope own = true) (hsw : swapsWith (.ListComp elt [⟨tg, iter, ifs, 0⟩] scope pos) (some (.Name y py)) spos.line X.env = pure true)
    (hc : X.calm = true := by rfl) (hy : X.N[i]? = some y := by rfl) (hyl : X.env.scope.names.lookup y = some .local := by rfl) (hs : ∀ x, foldedSetIterable iter X.env x = pure x := by intro _; rfl) :
    PS X (.Assign [.Name y py] (.ListComp elt [⟨tg, iter, ifs, 0⟩] scope pos) spos) (tAsg (tLc wi g tt te (own.map (·.2))) (gName i)) := ps_setLc hc nd hy hyl hsw hi (blkOk_by ok) hg ht he hs
/-- [.. for ..] -/
theorem plc {elt tg iter : Expr} {ifs : List Expr} {scope : Scope} (own : List (Str × Nat)) {wi : TI} {g : TG} {tt : TT} (nd : X.N.Nodup) (hi : PI X tg iter wi)
    (hg : ∀ (s : Shared) (H : Hp) (C : Addr) (cl : List (Str × Addr)) (fp : List Addr), PG (X.blk s H scope (compEnvC scope cl C X.env) fp) tg g) (ht : ∀ (s : Shared) (H : Hp) (C : Addr) (cl : List (Str × Addr)) (fp : List Addr), PTs (X.blk s H scope (compEnvC scope cl C X.env) fp) ifs tt)
    (he : ∀ (s : Shared) (H : Hp) (C : Addr) (cl : List (Str × Addr)) (fp : List Addr), PE (X.blk s H scope (compEnvC scope cl C X.env) fp) elt te)
    (ok : blkC X.N X.env.scope scope own = true) (hc : X.calm = true := by rfl) (hs : ∀ x, foldedSetIterable iter X.env x = pure x := by intro _; rfl) :
    PE X (.ListComp elt [⟨tg, iter, ifs, 0⟩] scope pos) (tLc wi g tt te (own.map (·.2))) := pe_lc hc nd hi (blkOk_by ok) hg ht he hs
/-- f(..), f a def -/
theorem pcall {f : Addr} {x : Str} {fd : FuncData} {ps : List Str} {sp : Sp} {k : Nat} (G : FnOk X.prog X.w X.K X.mg X.base (L2.CX X.prog X.w) k f fd ps sp) (hr : Room k X.A) (D : Defn X.K X.mg x f fd ps) (ha : PA X (e :: es) t)
    (hg : Gl X x := by rfl) (hdb : (x == ("__debug__" : Str)) = false := by decide) (he : starEach (e :: es) X.env = (false, eval e X.env) :: starEach es X.env := by rfl) (hpl : (backTo pos (starEach es X.env)).any (·.1) = false := by rfl) :
    PE X (.Call (.Name x p) (e :: es) [] pos) (tCall sp [] E0 t) := pe_call G hr hg D.g D.k D.b .nil passL ha hdb he hpl
section
variable (ha : PA X (e :: es) t)
theorem bi_len (m : X.mg "len" = none) (ha : PA X (e :: es) t) (hg : Gl X "len" := by rfl) (he : starEach (e :: es) X.env = (false, eval e X.env) :: starEach es X.env := by rfl) (hpl : (backTo pos (starEach es X.env)).any (·.1) = false := by rfl) :
    PE X (.Call (.Name "len" p) (e :: es) [] pos) (tCB (rLen X.K) t) := pe_callB call_len hg m PySem.boot_len ha (by decide) (by decide) he hpl
theorem bi_isi (m : X.mg "isinstance" = none) (ha : PA X (e :: es) t) (hg : Gl X "isinstance" := by rfl) (he : starEach (e :: es) X.env = (false, eval e X.env) :: starEach es X.env := by rfl) (hpl : (backTo pos (starEach es X.env)).any (·.1) = false := by rfl) :
    PE X (.Call (.Name "isinstance" p) (e :: es) [] pos) (tCB (rIsi X.K) t) := pe_callB call_isi hg m PyProof.Rows.boot_isinstance ha (by decide) (by decide) he hpl
theorem bi_isi2 (m : X.mg "isinstance" = none) (ha : PA X (e :: es) t) (hg : Gl X "isinstance" := by rfl) (he : starEach (e :: es) X.env = (false, eval e X.env) :: starEach es X.env := by rfl) (hpl : (backTo pos (starEach es X.env)).any (·.1) = false := by rfl) :
    PE X (.Call (.Name "isinstance" p) (e :: es) [] pos) (tCB (rIsiT X.K) t) := pe_callB call_isiT hg m PyProof.Rows.boot_isinstance ha (by decide) (by decide) he hpl
theorem bi_sum (m : X.mg "sum" = none) (ha : PA X (e :: es) t) (hc : X.calm = true := by rfl) (hg : Gl X "sum" := by rfl) (he : starEach (e :: es) X.env = (false, eval e X.env) :: starEach es X.env := by rfl) (hpl : (backTo pos (starEach es X.env)).any (·.1) = false := by rfl) :
    PE X (.Call (.Name "sum" p) (e :: es) [] pos) (tCB (rSum X.K) t) := pe_callB (cr_sum hc) hg m PyProof.Rows.boot_sum ha (by decide) (by decide) he hpl
theorem bi_all (m : X.mg "all" = none) (ha : PA X (e :: es) t) (hc : X.calm = true := by rfl) (hg : Gl X "all" := by rfl) (he : starEach (e :: es) X.env = (false, eval e X.env) :: starEach es X.env := by rfl) (hpl : (backTo pos (starEach es X.env)).any (·.1) = false := by rfl) :
    PE X (.Call (.Name "all" p) (e :: es) [] pos) (tCB (rAll X.K) t) := pe_callB (cr_all hc) hg m PyProof.Rows.boot_all ha (by decide) (by decide) he hpl
theorem bi_max1 (m : X.mg "max" = none) (ha : PA X (e :: es) t) (hc : X.calm = true := by rfl) (hg : Gl X "max" := by rfl) (he : starEach (e :: es) X.env = (false, eval e X.env) :: starEach es X.env := by rfl) (hpl : (backTo pos (starEach es X.env)).any (·.1) = false := by rfl) :
    PE X (.Call (.Name "max" p) (e :: es) [] pos) (tCB (rMax X.K) t) := pe_callB (cr_max hc) hg m PyProof.Rows.boot_max ha (by decide) (by decide) he hpl
abbrev rMax2 : List V → Hp → VK → Prop := fun xs H Q => ∃ i j, xs = [.int i, .int j] ∧ Q (.int (if j > i then j else i)) H
abbrev rMin2 : List V → Hp → VK → Prop := fun xs H Q => ∃ i j, xs = [.int i, .int j] ∧ Q (.int (if j < i then j else i)) H
theorem bi_max2 (m : X.mg "max" = none) (ha : PA X (e :: es) t) (hc : X.calm = true := by rfl) (hg : Gl X "max" := by rfl) (he : starEach (e :: es) X.env = (false, eval e X.env) :: starEach es X.env := by rfl) (hpl : (backTo pos (starEach es X.env)).any (·.1) = false := by rfl) :
    PE X (.Call (.Name "max" p) (e :: es) [] pos) (tCB rMax2 t) := pe_callB (call_max2 hc) hg m PyProof.Rows.boot_max ha (by decide) (by decide) he hpl
theorem bi_min2 (m : X.mg "min" = none) (ha : PA X (e :: es) t) (hc : X.calm = true := by rfl) (hg : Gl X "min" := by rfl) (he : starEach (e :: es) X.env = (false, eval e X.env) :: starEach es X.env := by rfl) (hpl : (backTo pos (starEach es X.env)).any (·.1) = false := by rfl) :
    PE X (.Call (.Name "min" p) (e :: es) [] pos) (tCB rMin2 t) := pe_callB (call_min2 hc) hg m PyProof.Rows.boot_min ha (by decide) (by decide) he hpl
abbrev rAbs : List V → Hp → VK → Prop := fun xs H Q => ∃ i, xs = [.int i] ∧ Q (.int (if i < 0 then -i else i)) H
theorem bi_abs (m : X.mg "abs" = none) (ha : PA X (e :: es) t) (hg : Gl X "abs" := by rfl) (he : starEach (e :: es) X.env = (false, eval e X.env) :: starEach es X.env := by rfl) (hpl : (backTo pos (starEach es X.env)).any (·.1) = false := by rfl) :
    PE X (.Call (.Name "abs" p) (e :: es) [] pos) (tCB rAbs t) := pe_callB call_abs hg m PyProof.Rows.boot_abs ha (by decide) (by decide) he hpl
abbrev rInt : List V → Hp → VK → Prop := fun xs H Q => (∃ i, xs = [.int i] ∧ Q (.int i) H) ∨ ∃ k, xs = [.bl k] ∧ Q (.int (if k then 1 else 0)) H
theorem bi_int (m : X.mg "int" = none) (ha : PA X (e :: es) t) (hg : Gl X "int" := by rfl) (he : starEach (e :: es) X.env = (false, eval e X.env) :: starEach es X.env := by rfl) (hpl : (backTo pos (starEach es X.env)).any (·.1) = false := by rfl) :
    PE X (.Call (.Name "int" p) (e :: es) [] pos) (tCB rInt t) := pe_callTy call_int1 hg m PyProof.Rows.boot_int ha (by decide) (by decide) he hpl
theorem bi_tuple (m : X.mg "tuple" = none) (ha : PA X (e :: es) t) (hg : Gl X "tuple" := by rfl) (he : starEach (e :: es) X.env = (false, eval e X.env) :: starEach es X.env := by rfl) (hpl : (backTo pos (starEach es X.env)).any (·.1) = false := by rfl) :
    PE X (.Call (.Name "tuple" p) (e :: es) [] pos) (tCB (rTupOf X.K) t) := pe_callTy call_tuple_of hg m PyProof.Rows.boot_tuple ha (by decide) (by decide) he hpl
theorem bi_list (m : X.mg "list" = none) (ha : PA X (e :: es) t) (hg : Gl X "list" := by rfl) (he : starEach (e :: es) X.env = (false, eval e X.env) :: starEach es X.env := by rfl) (hpl : (backTo pos (starEach es X.env)).any (·.1) = false := by rfl) :
    PE X (.Call (.Name "list" p) (e :: es) [] pos) (tCB (rLstOf X.K) t) := pe_callTy call_list_of hg m PyProof.Rows.boot_list ha (by decide) (by decide) he hpl
end
/-- a built-in class as a value -/
theorem bt_int (m : X.mg "int" = none) (hg : Gl X "int" := by rfl) : PE X (.Name "int" pos) (tC (.ty "int")) := pe_bltn hg m PyProof.Rows.boot_int rfl (by decide) (by decide)
theorem bt_bool (m : X.mg "bool" = none) (hg : Gl X "bool" := by rfl) : PE X (.Name "bool" pos) (tC (.ty "bool")) := pe_bltn hg m PyProof.Rows.boot_bool rfl (by decide) (by decide)
theorem bt_str (m : X.mg "str" = none) (hg : Gl X "str" := by rfl) : PE X (.Name "str" pos) (tC (.ty "str")) := pe_bltn hg m PyProof.Rows.boot_str rfl (by decide) (by decide)
theorem bt_list (m : X.mg "list" = none) (hg : Gl X "list" := by rfl) : PE X (.Name "list" pos) (tC (.ty "list")) := pe_bltn hg m PyProof.Rows.boot_list rfl (by decide) (by decide)
theorem bt_tuple (m : X.mg "tuple" = none) (hg : Gl X "tuple" := by rfl) : PE X (.Name "tuple" pos) (tC (.ty "tuple")) := pe_bltn hg m PyProof.Rows.boot_tuple rfl (by decide) (by decide)
theorem bt_dict (m : X.mg "dict" = none) (hg : Gl X "dict" := by rfl) : PE X (.Name "dict" pos) (tC (.ty "dict")) := pe_bltn hg m PyProof.Rows.boot_dict rfl (by decide) (by decide)
/-- an int of the module -/
theorem pglob {x : Str} {n : Int} (hm : ∃ tk, X.mg x = some (.int n tk)) (hg : Gl X x := by rfl) (hd : (x == ("__debug__" : Str)) = false := by decide) : PE X (.Name x pos) (tC (.int n)) := by
  obtain ⟨tk, h⟩ := hm
  exact pe_glob hg h ⟨_, rfl⟩ hd
end
section
variable {W : Wd} {Γ : Gam} {K : PySem.W.Frag} {i j : Int} {b : Bool}
theorem cbt_abs : CbT W rAbs [dt K (.int i)] (dt K (.int (if i < 0 then -i else i))) := fun us H c hu Q q => by
  obtain ⟨v, rfl, h⟩ := hu.one
  cases h
  exact ⟨i, rfl, q _ H (Ex.refl _ _) (.int _)⟩
theorem cbt_max2 : CbT W rMax2 [dt K (.int i), dt K (.int j)] (dt K (.int (if j > i then j else i))) := fun us H c hu Q q => by
  obtain ⟨v, w, rfl, h, k⟩ := hu.two
  cases h
  cases k
  exact ⟨i, j, rfl, q _ H (Ex.refl _ _) (.int _)⟩
theorem cbt_min2 : CbT W rMin2 [dt K (.int i), dt K (.int j)] (dt K (.int (if j < i then j else i))) := fun us H c hu Q q => by
  obtain ⟨v, w, rfl, h, k⟩ := hu.two
  cases h
  cases k
  exact ⟨i, j, rfl, q _ H (Ex.refl _ _) (.int _)⟩
theorem cbt_intI : CbT W rInt [dt K (.int i)] (dt K (.int i)) := fun us H c hu Q q => by
  obtain ⟨v, rfl, h⟩ := hu.one
  cases h
  exact .inl ⟨i, rfl, q _ H (Ex.refl _ _) (.int _)⟩
theorem cbt_intB : CbT W rInt [dt K (.bool b)] (dt K (.int (if b then 1 else 0))) := fun us H c hu Q q => by
  obtain ⟨v, rfl, h⟩ := hu.one
  cases h
  exact .inr ⟨b, rfl, q _ H (Ex.refl _ _) (.int _)⟩
end
end Ew

end
section
set_option Elab.async false
set_option linter.all false
set_option maxRecDepth 100000
set_option maxHeartbeats 1000000
/-! EwE: comprehensions over lists of anything; more operators. -/
namespace Ew
open PySem PySem.Spec PyProof.Rows L2
section
variable {W : Wd} {Γ Γ' : Gam} {K : PySem.W.Frag} {T U A C P : Typ} {Ts Us : List Typ} {ds es : List PyData} {d : PyData} {ta : TA} {te tb : TE} {g : TG} {gs : TGs} {vs : List Nat} {α : Type} {xs : List α} {j : Nat} {wi : TI} {tt : TT}
theorem ty_andF (h1 : Ty W Γ te (dt K (.bool false))) : Ty W Γ (tAndV te tb) (dt K (.bool false)) := (ty_andV (b := false) h1 fun z => Bool.noConfusion z).is rfl
theorem ty_orTr (h1 : Ty W Γ te (dt K (.bool true))) : Ty W Γ (tOrV te tb) (dt K (.bool true)) := (ty_orV (b := true) h1 fun z => Bool.noConfusion z).is rfl
theorem tt_andF {tu : TT} (h1 : Tt W Γ tt (· = false)) : Tt W Γ (tAnd tt tu) (· = false) := (tt_andB (b := false) h1 fun z => Bool.noConfusion z).is rfl
theorem tt_orTr {tu : TT} (h1 : Tt W Γ tt (· = true)) : Tt W Γ (tOr tt tu) (· = true) := (tt_orB (b := true) h1 fun z => Bool.noConfusion z).is rfl
theorem range_map_getD (F : α → Typ) (y : α) : (List.range xs.length).map (fun i => F (xs.getD i y)) = xs.map F := by
  apply List.ext_getElem
  · simp
  · intro i h1 h2
    have hi : i < xs.length := by simpa using h2
    simp [List.getD_eq_getElem?_getD, List.getElem?_eq_getElem hi]
/-- a comprehension over what comes from xs -/
theorem tyl_mapT (A F : α → Typ) (hi : TyI W Γ wi (xs.map A)) (hz : xs.length ≤ 1000000) (gk : GOk g vs)
    (hs : ∀ (W' : Wd) x, x ∈ xs → ∃ Γi, TyG W' (wipeG Γ vs) g (A x) Γi ∧ Ty W' Γi te (F x)) : TyL W Γ (tLc wi g tYes te vs) (xs.map F) := by
  cases xs with
  | nil =>
    have h := tyl_lc1 (te := te) (fun _ => isV .non) hi (by simpa using hz) gk fun W' i T hT => by simp at hT
    simpa using h
  | cons y ys =>
    have h := tyl_lc1 (te := te) (fun i => F ((y :: ys).getD i y)) hi (by simpa using hz) gk fun W' i T hT => by
      rw [List.getElem?_map] at hT
      cases e : (y :: ys)[i]? with
      | none => rw [e] at hT; cases hT
      | some x =>
        rw [e] at hT
        cases hT
        obtain ⟨Γi, h1, h2⟩ := hs W' x (List.mem_of_getElem? e)
        refine ⟨Γi, h1, ?_⟩
        rw [List.getD_eq_getElem?_getD, e]
        exact h2
    rw [List.length_map, range_map_getD F y] at h
    exact h
/-- .. its items in the slot j -/
theorem tyl_map (A F : α → Typ) (hi : TyI W Γ wi (xs.map A)) (hz : xs.length ≤ 1000000) (hj : j ∈ vs) (hs : ∀ (W' : Wd) x, x ∈ xs → Ty W' ((wipeG Γ vs).set j (some (A x))) te (F x)) :
    TyL W Γ (tLc wi (gName j) tYes te vs) (xs.map F) := tyl_mapT A F hi hz (gok_name j hj) fun W' x hx => ⟨_, tyg_name j, hs W' x hx⟩
theorem filter_range_getD (F : α → Typ) (p : α → Bool) (y : α) : ((List.range xs.length).filter fun i => p (xs.getD i y)).map (fun i => F (xs.getD i y)) = (xs.filter p).map F := by
  have key : ∀ (l : List α), (∀ n, (List.range n).filterMap (fun i => if p (l.getD i y) = true then some (F (l.getD i y)) else none) = ((l ++ List.replicate (n - l.length) y).take n).filterMap fun x => if p x = true then some (F x) else none) := by
    intro l n
    have e : (List.range n).map (fun i => l.getD i y) = (l ++ List.replicate (n - l.length) y).take n := by
      apply List.ext_getElem
      · simp; omega
      · intro i h1 h2
        have hi : i < n := by simpa using h1
        simp only [List.getElem_map, List.getElem_range, List.getElem_take, List.getD_eq_getElem?_getD]
        by_cases hl : i < l.length
        · rw [List.getElem?_eq_getElem hl, List.getElem_append_left hl]; rfl
        · rw [List.getElem?_eq_none (by omega), List.getElem_append_right (by omega), List.getElem_replicate]; rfl
    rw [← e, List.filterMap_map]
    rfl
  have h := key xs xs.length
  rw [Nat.sub_self, List.replicate_zero, List.append_nil, List.take_length] at h
  have f1 : ∀ (l : List Nat), (l.filter fun i => p (xs.getD i y)).map (fun i => F (xs.getD i y)) = l.filterMap (fun i => if p (xs.getD i y) = true then some (F (xs.getD i y)) else none) := by
    intro l
    induction l with
    | nil => rfl
    | cons a l ih =>
      rw [List.filter_cons, List.filterMap_cons]
      by_cases c : p (xs.getD a y) = true
      · rw [if_pos c, if_pos c, List.map_cons, ih]
      · rw [if_neg c, if_neg c, ih]
  have f2 : ∀ (l : List α), (l.filter p).map F = l.filterMap (fun x => if p x = true then some (F x) else none) := by
    intro l
    induction l with
    | nil => rfl
    | cons a l ih =>
      rw [List.filter_cons, List.filterMap_cons]
      by_cases c : p a = true
      · rw [if_pos c, if_pos c, List.map_cons, ih]
      · rw [if_neg c, if_neg c, ih]
  rw [f1, f2, h]
/-- .. with a test -/
theorem tyl_filterT (A F : α → Typ) (p : α → Bool) (hi : TyI W Γ wi (xs.map A)) (hz : xs.length ≤ 1000000) (gk : GOk g vs)
    (hs : ∀ (W' : Wd) x, x ∈ xs → ∃ Γi, TyG W' (wipeG Γ vs) g (A x) Γi ∧ Tt W' Γi tt (· = p x) ∧ (p x = true → Ty W' Γi te (F x))) : TyL W Γ (tLc wi g tt te vs) ((xs.filter p).map F) := by
  cases xs with
  | nil =>
    have h := tyl_lc (te := te) (tt := tt) (fun _ => true) (fun _ => isV .non) hi (by simpa using hz) gk fun W' i T hT => by simp at hT
    simpa using h
  | cons y ys =>
    have h := tyl_lc (te := te) (tt := tt) (fun i => p ((y :: ys).getD i y)) (fun i => F ((y :: ys).getD i y)) hi (by simpa using hz) gk fun W' i T hT => by
      rw [List.getElem?_map] at hT
      cases e : (y :: ys)[i]? with
      | none => rw [e] at hT; cases hT
      | some x =>
        rw [e] at hT
        cases hT
        obtain ⟨Γi, h1, h2, h3⟩ := hs W' x (List.mem_of_getElem? e)
        refine ⟨Γi, h1, ?_, fun z => ?_⟩
        · rw [List.getD_eq_getElem?_getD, e]
          exact h2
        · rw [List.getD_eq_getElem?_getD, e] at z ⊢
          exact h3 z
    rw [List.length_map, filter_range_getD F p y] at h
    exact h
theorem tyl_filter (A F : α → Typ) (p : α → Bool) (hi : TyI W Γ wi (xs.map A)) (hz : xs.length ≤ 1000000) (hj : j ∈ vs)
    (hs : ∀ (W' : Wd) x, x ∈ xs → Tt W' ((wipeG Γ vs).set j (some (A x))) tt (· = p x) ∧ (p x = true → Ty W' ((wipeG Γ vs).set j (some (A x))) te (F x))) : TyL W Γ (tLc wi (gName j) tt te vs) ((xs.filter p).map F) :=
  tyl_filterT A F p hi hz (gok_name j hj) fun W' x hx => ⟨_, tyg_name j, hs W' x hx⟩
theorem ty_sumG {f : α → Int} (h : TyL W Γ te (xs.map fun x => dt K (.int (f x)))) : Ty W Γ (tCB (rSum K) (tCons te tNil)) (dt K (.int (xs.map f).sum)) := ty_sumOf (ns := xs.map f) (by rw [List.map_map]; exact h)
theorem ty_allG {p : α → Bool} (h : TyL W Γ te (xs.map fun x => dt K (.bool (p x)))) : Ty W Γ (tCB (rAll K) (tCons te tNil)) (dt K (.bool (xs.all p))) := (ty_allOf (bs := xs.map p) (by rw [List.map_map]; exact h)).is (by rw [List.all_map]; rfl)
theorem ty_tupG {f : α → PyData} (h : TyL W Γ te (xs.map fun x => dt K (f x))) : Ty W Γ (tCB (rTupOf K) (tCons te tNil)) (dt K (.tuple (xs.map f))) := (ty_tupOf (K := K) h).sub fun v H _ z => tupT_data (by rw [List.map_map]; exact z)
theorem ty_lstG {f : α → PyData} (h : TyL W Γ te (xs.map fun x => dt K (f x))) : Ty W Γ te (dt K (.list (xs.map f))) := h.ty.sub fun v H _ z => lstT_data (K := K) (by rw [List.map_map]; exact z)
/-- data one by one -/
theorem tyi_tupA {f : α → PyData} (h : Ty W Γ te (dt K (.tuple (xs.map f)))) : TyI W Γ (iTup K te) (xs.map fun x => dt K (f x)) := by
  have z := tyi_tupD h
  rw [List.map_map] at z
  exact z
theorem tyi_lstA {f : α → PyData} (h : Ty W Γ te (dt K (.list (xs.map f)))) : TyI W Γ (iList K te) (xs.map fun x => dt K (f x)) := by
  have z := tyi_lstD h
  rw [List.map_map] at z
  exact z
/-- zip of two tuples of data, of one length -/
theorem tyi_zipA {β γ : Type} {as : List β} {bs : List γ} {f : β → PyData} {h : γ → PyData} {tb : TE} (ha : Ty W Γ te (dt K (.tuple (as.map f)))) (hb : Ty W Γ tb (dt K (.tuple (bs.map h)))) :
    TyI W Γ (RZ.iZipA K (tCons te (tCons tb tNil))) ((as.zip bs).map fun p => tupT K [dt K (f p.1), dt K (h p.2)]) := by
  have z := tyi_zipT (W := W) (Γ := Γ) (K := K) (Ts := (as.map f).map (dt K)) (Us := (bs.map h).map (dt K)) (tya_cons (ha.sub fun _ _ _ => data_tupT) (tya_cons (hb.sub fun _ _ _ => data_tupT) tya_nil))
  have e : ((((as.map f).map (dt K)).zip ((bs.map h).map (dt K))).map fun p => tupT K [p.1, p.2]) = ((as.zip bs).map fun p => tupT K [dt K (f p.1), dt K (h p.2)]) := by
    rw [List.map_map, List.map_map, List.zip_map, List.map_map]
    rfl
  rw [e] at z
  exact z
/-- for a, b in ..: two slots -/
theorem tyg_pair {i k : Nat} : TyG W Γ (gTup K 2 (gCons (gName i) (gCons (gName k) gNil))) (tupT K [A, C]) ((Γ.set i (some A)).set k (some C)) := tyg_tup (tygs_cons (tyg_name i) (tygs_cons (tyg_name k) tygs_nil))
theorem gok_pair {i k : Nat} (hi : i ∈ vs) (hk : k ∈ vs) : GOk (gTup K 2 (gCons (gName i) (gCons (gName k) gNil))) vs := gok_tup (gok_cons (gok_name i hi) (gok_cons (gok_name k hk) gok_nil))
/-- range(n) -/
theorem tyi_rng {n : Nat} (h : TyA W Γ ta [dt K (.int (n : Nat))]) (hn : n ≤ 1000000000) : TyI W Γ (iRng1 ta) ((List.range n).map fun i => dt K (.int (i : Nat))) := by
  have z := tyi_rng1 h (by omega) (by omega)
  rw [Int.toNat_natCast] at z
  exact z
end
end Ew

end
section
set_option Elab.async false
set_option linter.all false
set_option maxRecDepth 100000
set_option maxHeartbeats 2000000
/-! EwX: an own exception class over a class whose __init__ says super().__init__(given); self.given = given. -/
namespace PySem
namespace WrX
open PySem.W PySem.Calls PyProof.Rows PySem.HandSPX
/-! ### the text of __init__ -/
def iA (p1 p2 p3 : Pos) : Arguments := { posonlyargs := [], args := [{ arg := "self", annotation := none, pos := p1 }, { arg := "given", annotation := none, pos := p2 }], vararg := none, kwonlyargs := [], kw_defaults := [], kwarg := none, defaults := [.Constant .none 0 p3] }
def iB (q1 q2 q3 q4 q5 q6 q7 q8 q9 q10 : Pos) : List Stmt := [.Expr (.Call (.Attribute (.Call (.Name "super" q1) [] [] q2) "__init__" q3) [.Name "given" q4] [] q5) q6, .Assign [.Attribute (.Name "self" q7) "given" q8] (.Name "given" q9) q10]
def iS : Scope := { kind := .function, names := [(PySem.Str.ofString "self", .local), (PySem.Str.ofString "given", .local), (PySem.Str.ofString "__class__", .free), (PySem.Str.ofString "super", .globalImplicit)], isGenerator := false, isCoroutine := false, more := [] }
abbrev veTail : List Value := [.type "ValueError", .type "Exception", .type "BaseException", .type "object"]
/-- what the written part says of the class D of the text, its __init__ at fI -/
structure BaseTxt (prog : Program) (K : Frag) (mg : Str → Option Value) (D fI : Addr) : Prop where
  fn : ∃ (oc : Value) (od : Option Addr) (Td : Addr) (kV doc pm : Value) (an : Option Addr) (cda cc : Addr) (ct : Value) (osl : Array (Option Value)) (p1 p2 p3 q1 q2 q3 q4 q5 q6 q7 q8 q9 q10 : Pos) (ccl cl : Value) (cdd cld : Option Addr) (vs : Array Value) (ccs csl : Array (Option Value)) (file : Str) (tf : Tok) (tc : Value) (td : Option Addr) (nT : Nat) (tsl : Array (Option Value)),
    K.lookup fI = some ⟨oc, od, .func (ksFn "__init__" "WrapError.__init__" (iA p1 p2 p3) (iB q1 q2 q3 q4 q5 q6 q7 q8 q9 q10) iS (.ref Td) kV doc pm an (.ref cda) ct cc), osl⟩ ∧ codeIn K (.ref cda) "WrapError.__init__" = true ∧
    K.lookup cda = some ⟨ccl, cdd, .fields vs, ccs⟩ ∧ vs[2]? = some (.str file tf) ∧ ((prog.main.file : Str) == file) = true ∧ K.lookup cc = some ⟨cl, cld, .cell (some (.ref D)), csl⟩ ∧ K.lookup Td = some ⟨tc, td, .seq #[.none] nT, tsl⟩ ∧ (q3.endLine == q5.line) = true
  cD : ∃ cdD, clsIn K D = some cdD
  mS : mg "super" = none
  top : (prog.main.scope.names.lookup ("super" : Str)).isSome = false
  any : nsIn K cStatics "thirdparty.any" = some none
/-- .. of a class C over it, without an __init__ of its own -/
structure ClsTxt (K : Frag) (mg : Str → Option Value) (nm : Str) (D fI C : Addr) : Prop where
  gC : mg nm = some (.ref C)
  cls : ∃ nm q N bs sn sub ab col dd k0 k1 k2 k3 k5, K.lookup C = some (excClassObj nm q C N bs (.ref D :: veTail) true sn sub ab col dd k0 k1 k2 k3 k5 "ValueError.__new__")
  sa : findIn K (.ref C) "__setattr__" = some (some (.builtin "object.__setattr__"))
  noN : findIn K (.ref C) "given" = some none
  iC : findIn K (.ref C) "__init__" = some (some (.ref fI))
  tI : typeIn K (.ref fI) = some (.type "function")
  kC : keepIn K (.ref C) = true
  exC : subIn K (.ref C) (.type "BaseException") = some true
  veC : subIn K (.ref C) (.type "ValueError") = some true
  tyC : typeIn K (.ref C) = some (.type "type")
  ne : C ≠ D
theorem one_size (v : Value) : [v].length ≤ sizeLine := by
  rw [sizeLine_eq]
  exact (by decide : 1 ≤ 16777216)
theorem refs (D : Addr) : refsVE (.ref D :: veTail) = true := by
  show refsVE veTail = true
  decide +kernel
theorem refs_two (C D : Addr) : refsVE (.ref C :: .ref D :: veTail) = true := by
  show refsVE veTail = true
  decide +kernel
theorem mro_has {K : Frag} {C D : Addr} {cd : ClassData} (hcd : clsIn K C = some cd) (hm : cd.mro = .ref C :: .ref D :: veTail) : mroIn K C (.ref D) = some true := by
  unfold mroIn
  rw [hcd, Option.bind_some, hm, if_neg (show ¬ (List.isEmpty (Value.ref C :: Value.ref D :: veTail) = true) from Bool.false_ne_true)]
  simp
theorem drop_to {C D : Addr} (h : C ≠ D) (l : List Value) : ((Value.ref C :: Value.ref D :: l).dropWhile (· != .ref D)).drop 1 = l := by
  have e : (Value.ref C != Value.ref D) = true := by simp [h]
  rw [List.dropWhile_cons, if_pos e, List.dropWhile_cons, if_neg (by simp)]
  rfl
theorem along_ve (K : Frag) : alongIn K "__init__" veTail = some (some (.builtin "ValueError.__init__")) := by kernel_rfl
section
variable {prog : Program} {w : World} {A : Around} {E : Value → Shared → Prop} {R : Result → Shared → Prop} {s : Shared} {K : Frag} {mg mb : Str → Option Value} {C D fI fJ : Addr}
/-- the bound ValueError.__init__ is called -/
theorem call_mw {h : Heap} {g : Array GenState} {d : Drawn} {t : Nat} {os : OsState} {nm q : Str} {N : Addr} {bs bm : List Value} {hdct : Bool} {sn : List Str} {sub : List Value} {ab : Bool} {col : Option Bool} {dd : Option Addr} {k0 k1 k2 k3 k5 : Option Value} {u e t0 : Addr} {rest : List Value} {Q : Value → Shared → Prop}
    (hC : h.get? C = some (excClassObj nm q C N bs bm hdct sn sub ab col dd k0 k1 k2 k3 k5 "ValueError.__new__")) (he : h.get? e = some (excO C t0)) (hu : h.get? u = some (kxs_mw "ValueError.__init__" e)) (hrest : rest.length ≤ sizeLine)
    (hq : ∀ h' t1, (∀ b o, b ≠ e → h.get? b = some o → h'.get? b = some o) → h'.get? e = some (excO C t1) → Q .none ⟨h', g, d, t, os⟩) :
    wpAny (model prog w) A (call (.ref u) rest) Q E ⟨h, g, d, t, os⟩ := by
  refine wpAny_call (codeAny_of_tree ?_)
  show wpAny _ A.in1 (callAny (.ref u) ⟨rest, []⟩) _ _ _
  simp only [callAny]
  refine wpAny_bind (wpAny_load hu ?_)
  simp only [kxs_mw, show (Value.type "method-wrapper" == Value.type "method" || Value.type "method-wrapper" == Value.type "builtin_function_or_method" || Value.type "method-wrapper" == Value.type "method-wrapper") = true by decide, if_true]
  refine KFB.if_so (by decide) ?_
  refine wpAny_bind (check_bound_init F.excBase_ValueError.toExcCallFacts hC he rfl ?_)
  refine wpAny_bind (wpAny_pure (wpAny_pure ?_))
  refine ⟨plainId_quiet F.excBase_ValueError.init.plain _, codeAny_builtin F.excBase_ValueError.initEntry ?_⟩
  rw [Around.under_plainId F.excBase_ValueError.init.plain _]
  exact exc_init_tree (cls := .ref C) (t0 := t0) (dv := none) (c2 := .none) (c3 := .none) (b4 := .bool false) he hrest fun h' k hx _ => hq h' _ k hx
theorem callWith_mw {pos : Pos} {u x : Addr} {env : Env} {e : Expr} {rest : List Expr} {Q : Value → Shared → Prop}
    (h : wpAny (model prog w) A (spliced (backTo pos (starEach (e :: rest) env))) (fun vs s₁ => KxsAt "ValueError.__init__" u x s₁.heap ∧ wpAny (model prog w) A (call (.ref u) vs) Q E s₁) E s)
    (he : starEach (e :: rest) env = (false, eval e env) :: starEach rest env := by rfl) (hplain : (backTo pos (starEach rest env)).any (·.1) = false := by rfl) :
    wpAny (model prog w) A (callWith pos (.ref u) [] (backTo pos (starEach (e :: rest) env)) []) Q E s := by
  rw [he] at h ⊢
  refine kxs_callWith (i := "ValueError.__init__") (x := x) (by show (false || (backTo pos (starEach rest env)).any (·.1)) = false; rw [hplain]; rfl) ?_
  exact evalArgs_plain h
/-- what __init__ leaves of a fresh exception at x -/
structure InitEnd (h h' : Heap) (x C dx t1 : Addr) (v : Value) : Prop where
  keep : ∀ b o, b ≠ x → h.get? b = some o → h'.get? b = some o
  obj : h'.get? x = some { cls := .ref C, dict := some dx, data := .fields #[.ref t1, .none, .none, .none, .bool false, .none] }
  dbig : h.objs.size ≤ dx
  dne : dx ≠ x
  ns : h'.Ns1 dx (fun y => if y = "given" then some v else none)
/-- a made one -/
structure OwnMade (h h' : Heap) (e C d : Addr) (v : Value) : Prop where
  keep : ∀ b o, h.get? b = some o → h'.get? b = some o
  new : h.objs.size ≤ e
  obj : ∃ oe vs, h'.get? e = some oe ∧ oe.cls = .ref C ∧ oe.dict = some d ∧ oe.data = .fields vs ∧ vs[1]? = some .none
  dbig : h.objs.size ≤ d
  dne : d ≠ e
  ns : h'.Ns1 d (fun y => if y = "given" then some v else none)
theorem boot_super : bootBuiltins "super" = some (.type "super") := by first | rfl | kernel_rfl
theorem ksLd {M : Model} {name : Str} {scope : Scope} {L a cc : Addr} {cd : Value} {m : Str → Option Value} {x : Str} {pos : Pos} {v : Value} {Q : Value → Shared → Prop} (hn : s.heap.Ns L m) (hv : m x = some v) (h : Q v s)
    (hk : scope.kind = .function := by rfl) (hl : (ksEnv name scope L a cd cc).kindOf x = some .local := by rfl) (hd : (x == ("__debug__" : Str)) = false := by decide) :
    wpAny M A (eval (.Name x pos) (ksEnv name scope L a cd cc)) Q E s := wpAny_Name (wpAny_loadName_local hk hl hn hv h) hd
theorem kept_but {h h' : Heap} {x : Addr} (X : K.In h) (hx : K.lookup x = none) (k : ∀ b o, b ≠ x → h.get? b = some o → h'.get? b = some o) : K.In h' := fun a o e =>
  k a o (fun z => by rw [z, hx] at e; cases e) (X a o e)
theorem he_line {o : Expr} {name : Str} {apos pos p4 : Pos} {x : Str} {env : Env} (hl : (apos.endLine == pos.line) = true) :
    eval (.Call (.Attribute o name apos) [.Name x p4] [] pos) env = (do
      let ov ← attributeBase o name env (eval o env)
      standAt apos.atName
      let (f, first) ← holding [ov] (getMethod ov name (L2.plainOf o env))
      callWith pos f first (backTo pos (starEach [.Name x p4] env)) []) := by
  have e : eval (.Call (.Attribute o name apos) [.Name x p4] [] pos) env = (do
    let ov ← attributeBase o name env (eval o env)
    standAt apos.atName
    methodCall o name apos pos env ov (List.length [Expr.Name x p4] + List.length ([] : List Keyword)) (backTo pos (starEach [.Name x p4] env)) (backToKw pos (keywordEach [] env))) := rfl
  rw [e]
  congr 1
  funext ov
  congr 1
  funext u
  exact L2.mcall_line rfl hl
theorem we_init {nm : Str} (Bt : BaseTxt prog K mg D fI) (T : ClsTxt K mg nm D fJ C) {x t0 : Addr} {v : Value} (X : K.In s.heap) (hlim : s.heap.NoLimit) (G : s.heap.Ns mainGlobals mg) (GB : ∃ mb, s.heap.Ns builtinsNs mb ∧ ∀ x : Str, x ≠ "__name__" → mb x = bootBuiltins x)
    (hx : s.heap.get? x = some (excO C t0)) (hnx : K.lookup x = none) (hroom : A.depth < recursionLimit)
    (hq : ∀ h' tk dx t1, InitEnd s.heap h' x C dx t1 v → R (.ok (.ret .none)) { s with heap := h', toks := tk }) :
    codeAny (model prog w) A (.call (.ref fI) ⟨[.ref x, v], []⟩) R s := by
  obtain ⟨oc, od, Td, kV, doc, pm, an, cda, cc, ct, osl, p1, p2, p3, q1, q2, q3, q4, q5, q6, q7, q8, q9, q10, ccl, cl, cdd, cld, vs, ccs, csl, file, tf, tc, td, nT, tsl, ho, hcd, hcode, hvs, hfile, hcell, hT, hline⟩ := Bt.fn
  obtain ⟨nm', q, N, bs, sn, sub, ab, col, dd, k0, k1, k2, k3, k5, hC⟩ := T.cls
  have hcl : clsIn K C = some { name := nm', bases := bs, mro := .ref C :: .ref D :: veTail, ns := N, qualname := q, hasDict := true, slotNames := sn, subclasses := sub, abstract := ab, collection := col, hasDel := false } := by unfold clsIn; rw [hC] <;> rfl
  obtain ⟨cdD, hD⟩ := Bt.cD
  obtain ⟨mb, hbn, hbm⟩ := GB
  obtain ⟨hp, g, d, t, os⟩ := s
  have hxC : x ≠ C := fun z => by rw [z, hC] at hnx; cases hnx
  refine ks_codeAny_call_defAt (fd := ksFn "__init__" "WrapError.__init__" (iA p1 p2 p3) (iB q1 q2 q3 q4 q5 q6 q7 q8 q9 q10) iS (.ref Td) kV doc pm an (.ref cda) ct cc) (body := iB q1 q2 q3 q4 q5 q6 q7 q8 q9 q10) (binds := [("self", .ref x), ("given", v)])
    hroom (X _ _ ho) rfl hlim (codeRec_of X hcd) rfl (L2.BindsTo.of_looks fun M => ?bind) ?cell ?loc (fun h₁ hns₁ k₁ => ?_) rfl rfl rfl
  case bind =>
    refine L2.looks_items (α := List (Str × Value)) X hT rfl (Looks.of_pure ?_)
    rfl
  case cell =>
    intro y hy
    rcases List.mem_cons.mp hy with rfl | hy
    · exact fun z => by cases z
    rcases List.mem_cons.mp hy with rfl | hy
    · exact fun z => by cases z
    rcases List.mem_cons.mp hy with rfl | hy
    · exact fun z => by cases z
    rcases List.mem_cons.mp hy with rfl | hy
    · exact fun z => by cases z
    cases hy
  case loc =>
    intro y hy
    rcases List.mem_cons.mp hy with rfl | hy
    · rfl
    rcases List.mem_cons.mp hy with rfl | hy
    · rfl
    cases hy
  have X₁ : K.In h₁ := X.keeps k₁
  have hx₁ := k₁ _ _ hx
  have hxL : hp.objs.size ≠ x := Nat.ne_of_gt (Heap.lt_size hx)
  obtain ⟨oD, hD1, hD2⟩ : ∃ oD, h₁.get? D = some oD ∧ oD.data = .cls cdD := by
    unfold clsIn at hD
    split at hD
    · rename_i c d cd' sl ho
      cases hD
      exact ⟨_, X₁ _ _ ho, rfl⟩
    · cases hD
  show _root_.PySem.wpAt (model prog w) _ (.func (iB q1 q2 q3 q4 q5 q6 q7 q8 q9 q10) (ksEnv "WrapError.__init__" iS hp.objs.size fI (.ref cda) cc)) (execs (iB q1 q2 q3 q4 q5 q6 q7 q8 q9 q10) (ksEnv "WrapError.__init__" iS hp.objs.size fI (.ref cda) cc)) _ _ _
  refine ks_wpAt_execs_cons ?_
  refine ks_wpAt_Expr_any ?_
  refine ks_wpAt_MethodCall (pl := L2.plainOf (.Call (.Name "super" q1) [] [] q2) (ksEnv "WrapError.__init__" iS hp.objs.size fI (.ref cda) cc)) ?_ (he_line hline)
  refine (ks_wpAt_super_base (env := ksEnv "WrapError.__init__" iS hp.objs.size fI (.ref cda) cc) rfl rfl (by decide) rfl (X₁ _ _ ho) rfl rfl rfl (X₁ _ _ hcode) rfl hvs hfile Bt.top ?_)
  refine ks_loadName_global rfl rfl (loadGlobal_builtin (env := ksEnv "WrapError.__init__" iS hp.objs.size fI (.ref cda) cc) (G.keeps k₁) Bt.mS (hbn.keeps k₁) ((hbm _ (by decide)).trans boot_super) ⟨rfl, ?_⟩)
  refine wpAny_loadName_free rfl rfl rfl ⟨_, X₁ _ _ hcell, rfl⟩ ?_
  refine wpAny_loadName_local (v := .ref x) rfl rfl hns₁ rfl ?_
  refine ks_wpAny_isType_cls hD1 hD2 ⟨rfl, ?_⟩
  refine ks_wpAny_call_super hD1 hD2 hx₁ rfl (fun c e => by cases e) (looks_mroIn X₁ (mro_has hcl rfl)) (fun h₂ hso k₂ => ?_)
  have X₂ : K.In h₂ := X₁.keeps k₂
  have hx₂ := k₂ _ _ hx₁
  have I₂ : InstAt h₂ x (excO C t0) C none := ⟨hx₂, rfl, rfl, trivial⟩
  refine kxs_getMethod kxs_ValueError hso (looks_opaque X₂ Bt.any) (l₀ := .ref C :: .ref D :: veTail) (fun A Q E s k q => wpAny_bind ((looks_clsIn X₂ hcl) A _ E s k (wpAny_pure q))) (drop_to T.ne _) X₂ (along_ve K) (I₂.type.andThen (looks_subIn X₂ T.veC)) hxC (by decide) ?_
  have k₃ : ∀ b o, h₂.get? b = some o → (h₂.push (kxs_mw "ValueError.__init__" x)).get? b = some o := fun b o e => Heap.get?_push_of_some _ e
  have hu : (h₂.push (kxs_mw "ValueError.__init__" x)).get? h₂.objs.size = some (kxs_mw "ValueError.__init__" x) := Heap.get?_push_at rfl rfl
  have hns₃ := (hns₁.keeps k₂).keeps k₃
  refine callWith_mw (u := h₂.objs.size) (x := x) ?_
  refine spliced_more ?_
  refine ksLd (v := v) hns₃ rfl ?_
  refine spliced_none ⟨hu, ?_⟩
  have k03 : ∀ b o, hp.get? b = some o → (h₂.push (kxs_mw "ValueError.__init__" x)).get? b = some o := fun b o e => k₃ b o (k₂ b o (k₁ b o e))
  refine call_mw (e := x) (k03 _ _ (X _ _ hC)) (k03 _ _ hx) hu (one_size v) (fun h₄ t1 k₄ hx₄ => ?_)
  have k04 : ∀ b o, b ≠ x → hp.get? b = some o → h₄.get? b = some o := fun b o hb e => k₄ b o hb (k03 b o e)
  have X₄ : K.In h₄ := kept_but X hnx k04
  have hns₄ : h₄.Ns hp.objs.size (fun y => List.lookup y [(PySem.Str.ofString "self", Value.ref x), (PySem.Str.ofString "given", v)].reverse) := by
    obtain ⟨oL, es, ep, hL, r⟩ := hns₃
    exact ⟨oL, es, ep, k₄ _ _ hxL hL, r⟩
  -- self.given = given
  refine ks_wpAt_execs_cons (_root_.PySem.wpAt_of_wpAny (plainObj_wpAny_Assign_Attribute ?_))
  refine ksLd (v := v) hns₄ rfl (ksLd (v := .ref x) hns₄ rfl ?_)
  refine set_plain X₄ (ox := excO C t1) (od := none) ⟨hx₄, rfl, rfl, trivial⟩ T.sa ?_
  refine exc_osa X₄ hx₄ hcl (refs_two C D) rfl T.noN (fun h₅ tk₅ dx k₅ dn dne hx₅ hn₅ => ?_)
  refine _root_.PySem.wpAt_of_wpAny (wpAny_execs_nil (hq h₅ tk₅ dx t1 ⟨fun b o hb e => k₅ b o hb (k04 b o hb e), hx₅, Nat.le_trans ?_ dn, dne, hn₅⟩))
  obtain ⟨oL, es, ep, hL, r⟩ := hns₄
  exact Nat.le_of_lt (Heap.lt_size hL)
theorem we_made {nm : Str} (Bt : BaseTxt prog K mg D fI) (T : ClsTxt K mg nm D fI C) {v : Value} (X : K.In s.heap) (hlim : s.heap.NoLimit) (G : s.heap.Ns mainGlobals mg) (GB : ∃ mb, s.heap.Ns builtinsNs mb ∧ ∀ x : Str, x ≠ "__name__" → mb x = bootBuiltins x) (hroom : A.depth + 1 < recursionLimit)
    (hq : ∀ h' tk e d, OwnMade s.heap h' e C d v → R (.ok (.ret (.ref e))) { s with heap := h', toks := tk }) :
    codeAny (model prog w) A (.call (.ref C) ⟨[v], []⟩) R s := by
  obtain ⟨nm', q, N, bs, sn, sub, ab, col, dd, k0, k1, k2, k3, k5, hC⟩ := T.cls
  obtain ⟨hp, g, dr, tk, os⟩ := s
  have k : ∀ b o, hp.get? b = some o → ((hp.push (kdv_tup [v])).push (excO C hp.objs.size)).get? b = some o := fun b o e => Heap.get?_push_of_some _ (Heap.get?_push_of_some _ e)
  have hget : ((hp.push (kdv_tup [v])).push (excO C hp.objs.size)).get? (hp.objs.size + 1) = some (excO C hp.objs.size) := by heap_get
  have hnx : K.lookup (hp.objs.size + 1) = none := by
    cases e : K.lookup (hp.objs.size + 1) with
    | none => rfl
    | some o =>
      have z : hp.get? (hp.objs.size + 1) = some o := X _ _ e
      exact absurd (Nat.lt_of_succ_lt (Heap.lt_size z)) (Nat.lt_irrefl _)
  refine call_own F.excBase_ValueError (fun X => refsVE_contains X _ (refs D)) (X _ _ hC) (looks_findIn X T.iC) (fun self => bind_fn X self T.tI) (one_size v) ?_
  obtain ⟨mb, hb1, hb2⟩ := GB
  refine we_init (s := ⟨(hp.push (kdv_tup [v])).push (excO C hp.objs.size), g, dr, tk, os⟩) Bt T (X.keeps k) (hlim.keeps k) (G.keeps k) ⟨mb, hb1.keeps k, hb2⟩ hget hnx ?_ fun h' tk' dx t1 ⟨k', hx, dn, dne, hns⟩ => ?_
  · show A.depth + 1 < recursionLimit
    exact hroom
  · have old : ∀ b o, hp.get? b = some o → h'.get? b = some o := fun b o e => k' b o (Nat.ne_of_lt (Nat.lt_succ_of_lt (Heap.lt_size e))) (k b o e)
    have z : hp.objs.size + 1 + 1 ≤ dx := by
      first
        | (simpa only [Heap.size_push] using dn)
        | exact dn
        | (have q := dn; rw [Heap.size_push, Heap.size_push] at q; exact q)
    exact ⟨rfl, hq h' tk' (hp.objs.size + 1) dx ⟨old, Nat.le_succ _, ⟨_, _, hx, rfl, rfl, rfl, rfl⟩, Nat.le_trans (Nat.le_trans (Nat.le_succ _) (Nat.le_succ _)) z, dne, hns⟩⟩
end
end WrX
end PySem
namespace L2
open PySem PySem.Spec PyProof.Rows
theorem relO_giv {v : V} {v' : Value} (r : RelV v v') (f : Str) : RelO (List.lookup f [(("given" : Str), v)]) (if f = "given" then some v' else none) := by
  by_cases hw : f = "given"
  · subst hw
    rw [if_pos rfl]
    have q : List.lookup ("given" : Str) [(("given" : Str), v)] = some v := by simp [List.lookup]
    rw [q]
    exact r
  · rw [if_neg hw]
    have qw : (f == ("given" : Str)) = false := by simpa using hw
    have q2 : List.lookup f [(("given" : Str), v)] = none := by simp [List.lookup, qw]
    rw [q2]
    trivial
section
variable {X : Cx} {D C fI : Addr} {nm : Str}
/-- C(e) -/
def tMkW (C : Addr) (ta : TA) : St → Hp → XK → Prop := fun σ H Q => ta σ H fun vs H1 => ∃ v, vs = [v] ∧ ∀ d, H1 d = none → Q (.ref C) (some d) (upd H1 d (.xd [(("given" : Str), v)]))
theorem pmk_wr {a : Expr} {ta : TA} {p pos : Pos} {k : Nat} (Bt : PySem.WrX.BaseTxt X.prog X.K X.mg D fI) (T : PySem.WrX.ClsTxt X.K X.mg nm D fI C) (hr : Room k X.A) (ha : PA X [a] ta) (hg : Gl X nm := by rfl) (hdb : (nm == ("__debug__" : Str)) = false := by decide)
    (he : starEach (a :: []) X.env = (false, eval a X.env) :: starEach [] X.env := by rfl) (hpl : (backTo pos (starEach [] X.env)).any (·.1) = false := by rfl) :
    PMk X (.Call (.Name nm p) [a] [] pos) (tMkW C ta) := by
  intro pins s σ H Q I h
  refine wpAny_Call_Name_kw (ld_glob I hg T.gC ?_ hdb)
  refine PySem.W.callWith_K (h₀ := X.base) I.ok.mod.kin T.kC (thn (ha.run pos pins s σ H _ I h) fun us s1 hh => ?_) he hpl
  obtain ⟨vs, H1, I1, r1, v, ev, q1⟩ := hh
  subst ev
  refine ⟨I1.kIn, ?_⟩
  cases r1 with
  | cons rv rn =>
    rename_i v' us'
    cases rn
    show wpAny _ _ (call (.ref C) [v']) _ _ _
    have hlim := I1.nolimit
    obtain ⟨mb, hb1, hb2⟩ := I1.mod.blt
    have hG := I1.mod.glob.keeps I1.bk
    have hB := hb1.keeps I1.bk
    have hK := I1.kIn
    obtain ⟨hp, g, dr, tk, os⟩ := s1
    refine wpAny_call (PySem.WrX.we_made Bt T hK hlim hG ⟨mb, hB, hb2⟩ (by have := hr.dp; omega) fun h' tk' e d M => ?_)
    show MkP X pins σ Q (.ref e) ⟨h', g, dr, tk', os⟩
    obtain ⟨oe, fv, hoe, hc, hd, hdat, h1⟩ := M.obj
    have hns := M.ns
    obtain ⟨G', g1, g2⟩ := restrict h' fun b => decide (b ≠ e)
    have gk : ∀ b, b ≠ e → G'.get? b = h'.get? b := fun b hb => g1 b (decide_eq_true hb)
    have ge : G'.get? e = none := g2 e (by simp)
    have old : ∀ b o, hp.get? b = some o → G'.get? b = some o := fun b o q => (gk b (Nat.ne_of_lt (Nat.lt_of_lt_of_le (Heap.lt_size q) M.new))).trans (M.keep b o q)
    have ob : ObjOk X.prog X.w (upd H1 d (.xd [(("given" : Str), v)])) G' d (.xd [(("given" : Str), v)]) :=
      ⟨_, hns.at (fun o q => (gk d M.dne).trans q), fun f => relO_giv rv f⟩
    have J : Inv X pins σ (upd H1 d (.xd [(("given" : Str), v)])) ⟨G', g, dr, tk', os⟩ := I1.laid (t' := tk') old M.dbig ob
    refine ⟨e, oe, fv, ⟨G', g, dr, tk', os⟩, _, .ref C, some d, rfl, J, fun b o q => ?_, ge, hoe, ⟨hc, hd⟩, hdat, h1, ?_, rfl, I1.bare, raises_own T.exC T.tyC, q1 d (I1.hok.fresh M.dbig)⟩
    · by_cases hb : b = e
      · have q' : G'.get? b = some o := q
        rw [hb, ge] at q'; cases q'
      · exact (gk b hb).symm.trans q
    · rw [upd_ne (Ne.symm M.dne)]
      exact I1.hok.fresh M.new
/-- raise C(e) -/
def tRaiseW (C : Addr) (W : WX) (ta : TA) : TS := fun _ σ H => tMkW C ta σ H fun cls d H' => W cls d σ H'
theorem ps_raiseW {a : Expr} {ta : TA} {W : WX} {p pos pos2 : Pos} {k : Nat} (hc : X.calm = true) (Bt : PySem.WrX.BaseTxt X.prog X.K X.mg D fI) (T : PySem.WrX.ClsTxt X.K X.mg nm D fI C) (hr : Room k X.A) (tk : Takes X W) (ha : PA X [a] ta) (hg : Gl X nm := by rfl) (hdb : (nm == ("__debug__" : Str)) = false := by decide)
    (he : starEach (a :: []) X.env = (false, eval a X.env) :: starEach [] X.env := by rfl) (hpl : (backTo pos (starEach [] X.env)).any (·.1) = false := by rfl) :
    PS X (.Raise (some (.Call (.Name nm p) [a] [] pos)) none pos2) (tRaiseW C W ta) := ps_raise hc tk (pmk_wr Bt T hr ha hg hdb he hpl)
end
end L2

end
section
set_option Elab.async false
set_option linter.all false
set_option maxRecDepth 100000
set_option maxHeartbeats 2000000
/-! EwY: several except clauses with names; defs that raise, by types; calls with keywords only. -/
namespace L2
open PySem PySem.Spec PyProof.Rows
abbrev Hdl := Value × Nat × (Addr → Value → Option Addr → TS)
def wManyA (K : PySem.W.Frag) (Wout : WX) (D : Ends) : List Hdl → WX
  | [] => Wout
  | (c, i, ts) :: r => fun cls d σ H => ∃ b, PySem.W.exmOne K cls c = some b ∧
    (b = true → ∀ a, H a = none → ts a cls d { nx := fun σ' H' => D.nx (σ'.set i none) H', rt := D.rt, bk := fun σ' H' => D.bk (σ'.set i none) H', ct := fun σ' H' => D.ct (σ'.set i none) H' } (σ.set i (some (.ref a))) H) ∧ (b = false → wManyA K Wout D r cls d σ H)
inductive HdsA (X : Cx) : List ExceptHandler → List Hdl → Prop
  | nil : HdsA X [] []
  | cons {x n : Str} {c : Value} {i : Nat} {ts : Addr → Value → Option Addr → TS} {b₀ : Stmt} {suite : List Stmt} {np pos' : Pos} {hds : List ExceptHandler} {l : List Hdl} (hi : X.N[i]? = some n) (hln : X.env.kindOf n = some .local) (hc : Names X x c)
      (hsu : ∀ (a : Addr) (oe : Obj) (cls : Value) (d : Option Addr) (pn : List (Addr × Obj)), Zc cls d oe → (∃ vs, oe.data = .fields vs) → PSs (X.suite a ((a, oe) :: pn)) (b₀ :: suite) (ts a cls d)) (r : HdsA X hds l) :
      HdsA X (.ExceptHandler (some (.Name x np)) (some n) (b₀ :: suite) pos' :: hds) ((c, i, ts) :: l)
/-- try .. except ..: tb the body -/
def tTry (K : PySem.W.Frag) (Wout : WX) (l : List Hdl) (tb : WX → TS) : TS := fun D σ H => tb (wManyA K Wout D l) D σ H
section
variable {X : Cx} {body : List Stmt} {h₀ : ExceptHandler} {hds : List ExceptHandler} {l : List Hdl} {pos : Pos} {tb : WX → TS} {Wout : WX}
theorem ps_try_manyA (hs : X.stack = X.env :: X.outer) (hf : X.env.frame = some X.env.locals) (hN : X.N.Nodup) (tk : Takes X Wout)
    (hb : ∀ (W : WX) (pn : List (Addr × Obj)) (xe : Value → Shared → Prop), Takes (X.tr pn xe) W → PassesOwn (model X.prog X.w) X.A X.env xe → PSs (X.tr pn xe) body (tb W))
    (hh : HdsA X (h₀ :: hds) l) : PS X (.Try body (h₀ :: hds) [] [] pos) (tTry X.K Wout l tb) := by
  refine ⟨fun pins s σ H D I h => ?_⟩
  have ok := I.ok
  have hfr : X.A.frames = some (X.env :: X.outer) := by rw [ok.frames, hs]
  refine wpAny_Try_except ?_
  refine wpAny_mono ((hb (wManyA X.K Wout D l) (X.pn ++ pins) (fun e s₁ => wpAny (model X.prog X.w) X.A (noteFrame e X.env) (fun _ s₂ => wpAny (model X.prog X.w) X.A (setFlight e none) (fun _ s₃ =>
    wpAny (model X.prog X.w) X.A (handleBy e X.env (h₀ :: hds)) (SP X pins D) X.xe s₃) X.xe s₂) X.xe s₁) (fun u s' xx => ?_) PassesOwn.looking).run [] s σ H D (I.toTry _) h) (fun f s1 hsp => ?_) (fun e s1 he => he)
  · -- the catch
    obtain ⟨a, B, sI, pins', σ', H', cls, d, rfl, J', nb, up, sky, na, os, ag, w⟩ := xx
    have J : Inv X pins σ' H' sI := J'.ofTry ok
    have sky' : Sky B (X.env :: X.outer) a (Zc cls d) X.env.locals s'.heap := by rw [← hs]; exact sky
    show wpAny (model X.prog X.w) X.A (noteFrame (.ref a) X.env) _ _ _
    refine Sky.land Zc.steady hfr hf sky' fun h3 fl3 up3 => ?_
    have J3 : Inv X pins σ' H' { s' with heap := h3 } := J.landed nb fl3.1 (up.trans up3) os ag
    obtain ⟨oe3, vs3, he3, hz3, hd3⟩ := fl3.there
    have notFr : ∀ {h : Heap} {o : Obj} {vs : Array Value}, h.FunFrames B (X.env :: X.outer) → h.get? a = some o → o.data = .fields vs → a ∉ frs (X.env :: X.outer) := fun {h o vs} ff e dd hm => by
      obtain ⟨_, o', e', hnf⟩ := ff.mem hm
      rw [e] at e'; cases e'
      exact hnf _ dd
    have nfr := notFr fl3.2.2.1 he3 hd3
    have nL : a ≠ X.env.locals := fun z => nfr (List.mem_filterMap.mpr ⟨X.env, List.mem_cons_self, by rw [hf, z]⟩)
    have nF : a ∉ X.fs := fun hm => by
      obtain ⟨e, he, q⟩ := List.mem_filterMap.mp hm
      exact nfr (List.mem_filterMap.mpr ⟨e, List.mem_cons_of_mem _ he, q⟩)
    have S3 := J3.suite he3 hd3 na nL nF
    have go : ∀ {hds' : List ExceptHandler} {l' : List Hdl}, HdsA X hds' l' → wManyA X.K Wout D l' cls d σ' H' →
        wpAny (model X.prog X.w) X.A (handleBy (.ref a) X.env hds') (SP X pins D) X.xe { s' with heap := h3 } := by
      intro hds' l' hk
      induction hk with
      | nil =>
        intro w
        refine wpAny_handleBy_nil ?_
        obtain ⟨k1, k2, k3, oe, vs, T, oT, ts', he, hz, hd, h1, hr⟩ := id fl3
        unfold PySem.passOn
        refine wpAny_bind (wpAny_field he hd h1 ?_)
        rw [if_neg (show ¬ ((Value.ref T == Value.none) = true) from by simp)]
        have fin : wpAny (model X.prog X.w) X.A (setFlight (.ref a) X.env.frame) (fun _ s4 => wpAny (model X.prog X.w) X.A (throw (.ref a) : Sem Flow) (SP X pins D) X.xe s4) X.xe { s' with heap := h3 } := by
          rw [hf]
          refine HandSPX.setFlight_upZ fl3 fun h4 hh4 up4 => wpAny_throw (tk _ _ ?_)
          exact ⟨a, B, sI, pins, σ', H', cls, d, rfl, J, nb, (up.trans up3).trans up4, .inr (.inr (by rw [hs]; exact hh4)), na, os, ag, w⟩
        first
          | exact wpAny_bind (wpAny_pure (wpAny_bind fin))
          | exact wpAny_bind fin
      | @cons x n c i ts b₀ suite np pos' hds2 l2 hi hln hc hsu r ih =>
        intro w
        have hloc : Loc X.env.scope n := .inl hln
        obtain ⟨b, hb1, hyes, hno⟩ := w
        refine wpAny_handleBy_cons (codeAny_handlers_test ?_) (by intro q; cases q)
        have LT : PySem.W.Looks (model X.prog X.w) h3 (typeOf (.ref a)) cls := fun A Q E s k q => wpAny_typeOf_ref (k _ _ he3) (by rw [hz3.1]; exact q)
        have LM := PySem.W.exm_one (M := model X.prog X.w) (J3.kIn) LT hb1
        have test : ∀ {Q : Value → Shared → Prop} {E : Value → Shared → Prop}, Q c { s' with heap := h3 } → wpAny (model X.prog X.w) (X.A.mark (some (.ref a))) (eval (.Name x np) X.env) Q E { s' with heap := h3 } := fun {Q E} q => by
          obtain ⟨hg, hdbg, hm | ⟨hm, hv, hnn⟩⟩ := hc
          · exact ld_glob (X := X.suite a ((a, oe3) :: (X.pn ++ pins))) S3 hg hm q hdbg
          · exact ld_blt (X := X.suite a ((a, oe3) :: (X.pn ++ pins))) S3 hg hm hv q hnn hdbg
        refine test (LM.here ?_)
        cases b with
        | true =>
          refine codeAny_handlers_suite_as ?_
          refine HandSPX.lands_againZ fl3 fun h4 fl4 up4 => ?_
          have J4 : Inv X pins σ' H' { s' with heap := h4 } := J.landed nb fl4.1 ((up.trans up3).trans up4) os ag
          obtain ⟨oe4, vs4, he4, hz4, hd4⟩ := fl4.there
          have S4 := J4.suite he4 hd4 na nL nF
          refine store_ok (X := X.suite a ((a, oe4) :: (X.pn ++ pins))) (v := .ref a) S4 hN hi hloc rfl (fun s5 S5 => ?_) (.inr hln)
          refine wpAny_mono ((hsu a oe4 cls d (X.pn ++ pins) hz4 ⟨_, hd4⟩).run [] s5 _ H' _ S5 (hyes rfl a na)) (fun f s6 hsp => ?_) (fun _ _ z => False.elim z)
          have end_ : ∀ {σ6 : St} {H6 : Hp} {Q : Shared → Prop}, Inv (X.suite a ((a, oe4) :: (X.pn ++ pins))) [] σ6 H6 s6 → (∀ s7, Inv X pins (σ6.set i none) H6 s7 → Q s7) →
              wpAny (model X.prog X.w) X.A (do bindName X.env n .none; unbindBehindTheSuite X.env n pos') (fun _ s7 => Q s7) X.xe s6 := fun {σ6 H6 Q} S6 hq => gone_ok (S6.unsuite ok) hN hi hln hq
          cases f with
          | next =>
            obtain ⟨σ6, H6, S6, q6⟩ := hsp
            exact end_ S6 fun s7 J7 => ⟨_, _, J7, q6⟩
          | brk =>
            obtain ⟨σ6, H6, S6, q6⟩ := hsp
            exact end_ S6 fun s7 J7 => ⟨_, _, J7, q6⟩
          | cont =>
            obtain ⟨σ6, H6, S6, q6⟩ := hsp
            exact end_ S6 fun s7 J7 => ⟨_, _, J7, q6⟩
          | ret u =>
            obtain ⟨v6, σ6, H6, S6, r6, q6⟩ := hsp
            exact end_ S6 fun s7 J7 => ⟨_, _, _, J7, r6, q6⟩
        | false =>
          show wpAny _ X.A (handleBy (.ref a) X.env hds2) _ _ _
          exact ih (hno rfl)
    exact go hh w
  · cases f with
    | next =>
      obtain ⟨σ', H', J', q⟩ := hsp
      exact wpAny_execs_nil ⟨σ', H', J'.ofTry ok, q⟩
    | brk =>
      obtain ⟨σ', H', J', q⟩ := hsp
      exact ⟨σ', H', J'.ofTry ok, q⟩
    | cont =>
      obtain ⟨σ', H', J', q⟩ := hsp
      exact ⟨σ', H', J'.ofTry ok, q⟩
    | ret u =>
      obtain ⟨v, σ', H', J', r, q⟩ := hsp
      exact ⟨v, σ', H', J'.ofTry ok, r, q⟩
theorem k_try {K : PySem.W.Frag} (hK : X.K = K) (hs : X.stack = X.env :: X.outer) (hf : X.env.frame = some X.env.locals) (hN : X.N.Nodup) (tk : Takes X Wout)
    (hb : ∀ (W : WX) (pn : List (Addr × Obj)) (xe : Value → Shared → Prop), Takes (X.tr pn xe) W → PassesOwn (model X.prog X.w) X.A X.env xe → PSs (X.tr pn xe) body (tb W))
    (hh : HdsA X (h₀ :: hds) l) : PS X (.Try body (h₀ :: hds) [] [] pos) (tTry K Wout l tb) := hK ▸ ps_try_manyA hs hf hN tk hb hh
end
/-! ### calls with keywords only -/
structure KB (K : PySem.W.Frag) (fd : FuncData) (ps ks : List Str) (g : List Value → List Value) (gV : List V → List V) : Prop where
  to : ∀ (s : Shared) (ws : List Value), K.In s.heap → (g ws).length = ps.length → BindsTo s fd ⟨[], ks.zip ws⟩ (ps.zip (g ws))
  rel : ∀ {zs : List V} {ws : List Value}, Vals zs ws → Vals (gV zs) (g ws)
def tCallKS (sp : Sp) (gV : List V → List V) (E : St → XK) (tk : TA) : TE := fun σ H Q => tk σ H fun zs H1 => sp (gV zs) H1 Q (E σ)
section
variable {X : Cx} {CX : CXT} {k : Nat} {f : Addr} {fd : FuncData} {ps ks : List Str} {sp : Sp} {E : St → XK} {x : Str} {p pos : Pos} {kws : List Keyword} {tk : TA} {g : List Value → List Value} {gV : List V → List V}
theorem pe_callKS (F : FnOk X.prog X.w X.K X.mg X.base CX k f fd ps sp) (hr : Room k X.A) (hg : Gl X x) (hm : X.mg x = some (.ref f)) (hk : PySem.W.keepIn X.K (.ref f) = true) (hb : KB X.K fd ps ks g gV) (hx : ∀ σ, PassesAt CX X σ (E σ))
    (hkw : PK X kws tk) (hall : (backToKw pos (keywordEach kws X.env)).all (·.1.isSome) = true := by rfl) (hks : (backToKw pos (keywordEach kws X.env)).filterMap (·.1) = ks := by rfl)
    (hdb : (x == ("__debug__" : Str)) = false := by decide) (hpl : ((backTo pos (starEach [] X.env)).any (·.1) || (backToKw pos (keywordEach kws X.env)).any (·.1.isNone)) = false := by rfl) :
    PE X (.Call (.Name x p) [] kws pos) (tCallKS sp gV E tk) := by
  refine ⟨fun pins s σ H Q I h => ?_⟩
  refine wpAny_Call_Name_kw (ld_glob I hg hm ?_ hdb)
  refine PySem.W.callWith_KW0 (h₀ := X.base) I.ok.mod.kin hk hall (thn (hkw.run pos pins s σ H _ I h) fun ws s2 ⟨zs, H2, I2, rz, q2⟩ => ⟨I2.kIn, ?_⟩) hpl
  rw [hks]
  show wpAny _ _ (call (.ref f) [] (ks.zip ws)) _ _ _
  have r2 := hb.rel rz
  have hl : (g ws).length = ps.length := by rw [← r2.length]; exact F.len _ _ _ _ q2
  refine wpAny_call (codeAny_mono (F.run X.A X.stack s2 H2 ⟨[], ks.zip ws⟩ (g ws) (gV zs) Q (E σ) hr I2.env0 (hb.to s2 ws I2.kIn hl) r2 q2) fun r s' hq => ?_)
  cases r with
  | error e => exact hx σ pins H2 s2 e s' I2 hq
  | ok fl =>
    cases fl with
    | ret u => exact I2.after hq
    | next => exact False.elim hq
    | brk => exact False.elim hq
    | cont => exact False.elim hq
end
section
variable {K : PySem.W.Frag} {x qual : Str} {st : Stmt} {f : Addr} {fd : FuncData} {ps ks : List Str}
/-- every parameter by its keyword, in order -/
theorem Fun.kb (F : Fun K x qual st f fd)
    (h : ∀ (kV doc pm : Value) (an : Option Addr) (cdv ct : Value) (us : List Value), us.length = ps.length → bindArgs (PySem.W.fnOf x qual (defArgs st) (defBody st) (defScope st) .none kV doc pm an cdv ct) ⟨[], ks.zip us⟩ = pure (ps.zip us)) : KB K fd ps ks id id := by
  obtain ⟨oc, od, kV, doc, pm, an, cdv, ct, osl, rfl, lk, hcd⟩ := F.ex
  exact ⟨fun s ws _ hl => .of_eq (h kV doc pm an cdv ct ws hl), fun r => r⟩
theorem vals_rev : ∀ {vs : List V} {us : List Value}, Vals vs us → Vals vs.reverse us.reverse
  | _, _, .nil => .nil
  | _, _, .cons r rs => by
    rw [List.reverse_cons, List.reverse_cons]
    exact (vals_rev rs).append (.cons r .nil)
/-- .. in the order turned -/
theorem Fun.kbR (F : Fun K x qual st f fd)
    (h : ∀ (kV doc pm : Value) (an : Option Addr) (cdv ct : Value) (us : List Value), us.length = ps.length → bindArgs (PySem.W.fnOf x qual (defArgs st) (defBody st) (defScope st) .none kV doc pm an cdv ct) ⟨[], ks.zip us⟩ = pure (ps.zip us.reverse)) : KB K fd ps ks List.reverse List.reverse := by
  obtain ⟨oc, od, kV, doc, pm, an, cdv, ct, osl, rfl, lk, hcd⟩ := F.ex
  exact ⟨fun s ws _ hl => .of_eq (h kV doc pm an cdv ct ws (by rw [List.length_reverse] at hl; exact hl)), fun r => vals_rev r⟩
end
end L2
namespace Ew
open PySem PySem.Spec PyProof.Rows L2
/-! ### errors by types -/
/-- an error at the dict dd holds a value of the type T -/
def Held (W : Wd) (T : Typ) (dd : Addr) (H : Hp) : Prop := ∃ v, H dd = some (.xd [(("given" : Str), v)]) ∧ T.at W v H
/-- as spT; where bad x tells a class and a type, an error of it instead -/
def spE {α : Type} (C : α → Prop) (A : α → List Typ) (R : α → Typ) (bad : α → Option (Addr × Typ)) : Sp := fun vs H Q E => ∃ (M B : Addr → Prop) (x : α), (∀ a, B a → M a) ∧ (∀ a, B a → BoxAt H a) ∧ (∀ a, M a → H a ≠ none) ∧ C x ∧ TysV M B (A x) vs H ∧
  (bad x = none → ∀ v H', Ex B H H' → (R x).p M B v H' → Q v H') ∧ (∀ c T, bad x = some (c, T) → ∀ dd v H', Ex B H H' → T.p M B v H' → H' dd = some (.xd [(("given" : Str), v)]) → E (.ref c) (some dd) H')
/-- an own error's class -/
def erT (dd a : Addr) (T : Typ) : Typ := ⟨fun M B v H => v = .ref a ∧ ∃ u, H dd = some (.xd [(("given" : Str), u)]) ∧ T.p M B u H, fun e ⟨h, u, h1, h2⟩ => ⟨h, u, e.keepT h1 (fun _ z => nomatch z), T.up e h2⟩, fun n ⟨h, u, h1, h2⟩ => ⟨h, u, h1, T.weak n h2⟩, fun ⟨h, u, h1, h2⟩ => ⟨h, u, h1, T.drop h2⟩⟩
section
variable {W : Wd} {Γ : Gam} {tl : TA} {te : TE} {T U : Typ} {α : Type} {C : α → Prop} {A : α → List Typ} {R : α → Typ} {bad : α → Option (Addr × Typ)} {Wx : WX} {N : Sx → Hp → Prop} {Rr : V → Hp → Prop} {Bk Ct : Sx → Hp → Prop} {c : Addr} {φ : Prop}
/-- what is wished of an error of the class c that holds a value of the type T -/
def ErK (W : Wd) (Γ : Gam) (Wx : WX) (c : Addr) (T : Typ) : Prop := ∀ dd σ H, nE W Γ σ H → Held W T dd H → Wx (.ref c) (some dd) σ H
theorem ty_callE (x : α) (hC : C x) (h : TyA W Γ tl (A x)) (hb : ∀ c T, bad x = some (c, T) → ErK W Γ Wx c T) : Ty W Γ (tCallS (spE C A R bad) (WE Wx) tl) (gd (bad x = none) (R x)) := fun σ H c g Q q =>
  h σ H c g _ fun vs H1 e1 hv => ⟨W.M, W.B, x, W.sub, (c.up e1).box, (c.up e1).al, hC, hv, fun k v H2 e2 h2 => q v H2 (e1.trans e2) ⟨k, h2⟩,
    fun cc T k dd v H' e2 h2 h3 => hb cc T k dd σ H' ⟨c.up (e1.trans e2), g.up (e1.trans e2).toW⟩ ⟨v, h3, h2⟩⟩
/-- .. where nothing is let out -/
theorem ty_callE0 {E : XK} (x : α) (hC : C x) (h : TyA W Γ tl (A x)) (hb : bad x = none) : Ty W Γ (tCall (spE C A R bad) [] E tl) (R x) := fun σ H c g Q q =>
  h σ H c g _ fun vs H1 e1 hv => ⟨W.M, W.B, x, W.sub, (c.up e1).box, (c.up e1).al, hC, by rw [List.append_nil]; exact hv, fun k v H2 e2 h2 => q v H2 (e1.trans e2) h2,
    fun cc T k => by rw [hb] at k; cases k⟩
theorem ty_callKE {gV : List V → List V} {Us : List Typ} (x : α) (hC : C x) (h : TyA W Γ tl Us) (hg : ∀ {vs H}, TysV W.M W.B Us vs H → TysV W.M W.B (A x) (gV vs) H) (hb : ∀ c T, bad x = some (c, T) → ErK W Γ Wx c T) :
    Ty W Γ (tCallKS (spE C A R bad) gV (WE Wx) tl) (gd (bad x = none) (R x)) := fun σ H c g Q q =>
  h σ H c g _ fun vs H1 e1 hv => ⟨W.M, W.B, x, W.sub, (c.up e1).box, (c.up e1).al, hC, hg hv, fun k v H2 e2 h2 => q v H2 (e1.trans e2) ⟨k, h2⟩,
    fun cc T k dd v H' e2 h2 h3 => hb cc T k dd σ H' ⟨c.up (e1.trans e2), g.up (e1.trans e2).toW⟩ ⟨v, h3, h2⟩⟩
theorem ty_callKE0 {gV : List V → List V} {Us : List Typ} (x : α) (hC : C x) (h : TyA W Γ tl Us) (hg : ∀ {vs H}, TysV W.M W.B Us vs H → TysV W.M W.B (A x) (gV vs) H) (hb : bad x = none) :
    Ty W Γ (tCallKS (spE C A R bad) gV (fun _ => E0) tl) (R x) := fun σ H c g Q q =>
  h σ H c g _ fun vs H1 e1 hv => ⟨W.M, W.B, x, W.sub, (c.up e1).box, (c.up e1).al, hC, hg hv, fun k v H2 e2 h2 => q v H2 (e1.trans e2) h2,
    fun cc T k => by rw [hb] at k; cases k⟩
theorem ty_callK0 {gV : List V → List V} {Us : List Typ} (x : α) (hC : C x) (h : TyA W Γ tl Us) (hg : ∀ {vs H}, TysV W.M W.B Us vs H → TysV W.M W.B (A x) (gV vs) H) :
    Ty W Γ (tCallKS (spT C A R) gV (fun _ => E0) tl) (R x) := fun σ H c g Q q =>
  h σ H c g _ fun vs H1 e1 hv => ⟨W.M, W.B, x, W.sub, (c.up e1).box, (c.up e1).al, hC, hg hv, fun v H2 e2 h2 => q v H2 (e1.trans e2) h2⟩
theorem tysv_id {vs : List V} {H : Hp} {Ts : List Typ} (h : TysV W.M W.B Ts vs H) : TysV W.M W.B Ts (id vs) H := h
theorem tysv_rev2 {vs : List V} {H : Hp} (h : TysV W.M W.B [T, U] vs H) : TysV W.M W.B [U, T] vs.reverse H := by
  match vs, h with
  | [a, b], h => exact ⟨h.2.1, h.1, True.intro⟩
theorem Ty.gd (h : Ty W Γ te (gd φ T)) : Ty W Γ te T := h.sub fun _ _ _ z => z.2
/-- a call as a statement: behind it φ holds -/
theorem tys_dropG (h : Ty W Γ te (Ew.gd φ T)) : TyS W Γ (tDrop te) (fun σ H => φ ∧ nE W Γ σ H) Rr Bk Ct := fun σ H c g D dn _ _ _ => h σ H c g _ fun v H1 e z => dn σ H1 e.toW ⟨z.1, c.up e, g.up e.toW⟩
theorem tys_seqG {ts tw : TS} (h1 : TyS W Γ ts (fun σ H => φ ∧ nE W Γ σ H) Rr Bk Ct) (h2 : φ → TyS W Γ tw N Rr Bk Ct) : TyS W Γ (tSeq ts tw) N Rr Bk Ct := tys_seq h1 fun σ H ⟨f, n⟩ => ⟨W, Γ, Wd.Like.refl W, n, h2 f⟩
theorem tys_raise (h : Ty W Γ te T) (k : ErK W Γ Wx c T) : TyS W Γ (tRaiseW c Wx (tCons te tNil)) noN Rr Bk Ct := fun σ H cx g D _ _ _ _ =>
  h σ H cx g _ fun v H1 e hv => ⟨v, rfl, fun d hd => k d σ _ ⟨cx.up (e.trans (Ex.new hd)), g.up (e.trans (Ex.new hd)).toW⟩ ⟨v, upd_same, T.up (Ex.new (B := W.B) hd).toW hv⟩⟩
/-- err.given in a suite -/
theorem ty_given {a dd : Addr} {cls : Value} {d : Option Addr} (hc : cls = .ref c) (hd : d = some dd) (h : Ty W Γ te (erT dd a T)) : Ty W Γ (tXf a cls d c "given" te) T := fun σ H cx g Q q =>
  h σ H cx g _ fun v H1 e ⟨e1, u, h1, h2⟩ => ⟨e1, hc, dd, _, u, hd, h1, by simp [List.lookup], q u H1 e h2⟩
/-- try: the errors that its body lets out -/
theorem tys_try {K : PySem.W.Frag} {Wout : WX} {l : List Hdl} {tb : WX → TS} {Er : Value → Option Addr → Sx → Hp → Prop} (hb : ∀ Wx : WX, (∀ c d σ H, Er c d σ H → Wx c d σ H) → TyS W Γ (tb Wx) N Rr Bk Ct)
    (hh : ∀ D : Ends, (∀ v H', Rr v H' → D.rt v H') → ∀ c d σ H, Er c d σ H → wManyA K Wout D l c d σ H) : TyS W Γ (tTry K Wout l tb) N Rr Bk Ct := fun σ H c g D dn dr db dc =>
  hb (wManyA K Wout D l) (hh D dr) σ H c g D dn dr db dc
/-- the first clause takes it -/
theorem hdl_hit {K : PySem.W.Frag} {Wout : WX} {l : List Hdl} {D : Ends} {i : Nat} {ts : Addr → Value → Option Addr → TS} {dd : Addr} {σ : Sx} {H : Hp} {cc : Value} (hc : PySem.W.exmOne K (.ref c) cc = some true) (n : nE W Γ σ H) (hd : Held W T dd H)
    (dr : ∀ v H', Rr v H' → D.rt v H') (hs : ∀ a, TyS W (Γ.set i (some (erT dd a T))) (ts a (.ref c) (some dd)) noN Rr noN noN) : wManyA K Wout D ((cc, i, ts) :: l) (.ref c) (some dd) σ H :=
  ⟨true, hc, fun _ a ha => by
    obtain ⟨u, h1, h2⟩ := hd
    exact hs a _ H n.1 (EnvL.set (T := erT dd a T) ⟨rfl, u, h1, h2⟩ n.2) _ (fun _ _ _ z => z.elim) dr (fun _ _ _ z => z.elim) (fun _ _ _ z => z.elim), fun z => Bool.noConfusion z⟩
theorem hdl_miss {K : PySem.W.Frag} {Wout : WX} {l : List Hdl} {D : Ends} {i : Nat} {ts : Addr → Value → Option Addr → TS} {d : Option Addr} {σ : Sx} {H : Hp} {cc cls : Value} (hc : PySem.W.exmOne K cls cc = some false) (h : wManyA K Wout D l cls d σ H) :
    wManyA K Wout D ((cc, i, ts) :: l) cls d σ H := ⟨false, hc, fun z => Bool.noConfusion z, fun _ => h⟩
end
section
variable {P : Program} {w : World} {K : PySem.W.Frag} {mg : Str → Option Value} {base : Heap}
/-- a def that may raise, by its typed body -/
theorem fn_tyE {x qual : Str} {st : Stmt} {f : Addr} {fd : FuncData} {N ps : List Str} {k : Nat} {α : Type} {C : α → Prop} {A : α → List Typ} {R : α → Typ} {bad : α → Option (Addr × Typ)} (F : Fun K x qual st f fd) (S : FnScope N ps (defScope st))
    (len : ∀ x, C x → (A x).length = ps.length)
    (hbody : ∀ (cdv : Value) (Ar : Around) (outer : List Env) (s : Shared) (H : Hp) (E : XK), Room k (Ar.deeper (envOfC qual (defScope st) s.heap.objs.size f cdv)) →
      ∃ t, PSs (cxOf (L2.CX P w) P w K mg base N qual (defScope st) f cdv Ar outer s H E) (defBody st) t ∧ ∀ (W : Wd) (x : α), C x → (∀ Γ c T, bad x = some (c, T) → ErK W Γ (fun cls d _ H => E cls d H) c T) →
        TyS W ((A x).map some ++ List.replicate (N.length - ps.length) none) t (fun _ H' => bad x = none ∧ rW W (R x) .non H') (fun v H => bad x = none ∧ rW W (R x) v H) noN noN) :
    FnOk P w K mg base (L2.CX P w) (k + 1) f fd ps (spE C A R bad) := by
  refine F.okX S (fun vs H Q E h => ?_) fun cdv Ar outer s H vs Q E hr h => ?_
  · obtain ⟨M, B, x, _, _, _, hC, h, _⟩ := h
    rw [h.length, len x hC]
  · obtain ⟨M, B, x, hs, hb, ha, hC, h, q, qe⟩ := h
    obtain ⟨t, ht, k⟩ := hbody cdv Ar outer s H E hr
    refine ⟨t, ht, k (Wd.base M B H hs) x hC (fun Γ c T hb dd σ H' n hl => ?_) (L2.start N vs) H ⟨hb, ha, Ex.refl B H, True.intro⟩ ?_ _ (fun σ' H' _ n => q n.1 _ _ n.2.1 n.2.2) (fun v H' n => q n.1 _ _ n.2.1 n.2.2) (fun _ _ _ z => z.elim) (fun _ _ _ z => z.elim)⟩
    · obtain ⟨v, h1, h2⟩ := hl
      exact qe c T hb dd v H' n.1.ex h2 h1
    · unfold L2.start
      have e : vs.length = ps.length := by rw [h.length, len x hC]
      rw [e]
      exact env_start h _
theorem tys_retE {W : Wd} {Γ : Gam} {te : TE} {T : Typ} {φ : Prop} {Bk Ct : Sx → Hp → Prop} (hφ : φ) (h : Ty W Γ te T) : TyS W Γ (tRet te) noN (fun v H => φ ∧ rW W T v H) Bk Ct := tys_ret h fun v H c k => ⟨hφ, c.ex, k⟩
theorem tys_retG {W : Wd} {Γ : Gam} {te : TE} {T : Typ} {φ : Prop} {Bk Ct : Sx → Hp → Prop} (h : Ty W Γ te (gd φ T)) : TyS W Γ (tRet te) noN (fun v H => φ ∧ rW W T v H) Bk Ct := tys_ret h fun v H c k => ⟨k.1, c.ex, k.2⟩
end
end Ew

end
section
set_option Elab.async false
set_option linter.all false
set_option maxRecDepth 100000
set_option maxHeartbeats 2000000
/-! EwZ: zip of a list with a tuple (turned from the worked proofs for two lists and for two tuples). -/
namespace RZ
open PySem
open PySem.Sem (wp)
section
variable {prog : Program} {w : World} {A : Around} {E : Value → Shared → Prop} {s : Shared}
theorem zipLT_next_item {z TI TO i1 i2 l1 l2 : Addr} {k1 k2 : Nat} {xs ys : Array Value} {x y a b : Value} {Q : Value → Shared → Prop} (D : ZipApart z TI TO i1 i2 l1 l2)
    (hz : IsZip s.heap z TI TO .none) (hTI : IsPair s.heap TI (.ref i1) (.ref i2)) (hTO : IsPair s.heap TO a b)
    (h1 : s.heap.IsListIter i1 l1 k1) (h2 : s.heap.IsTupleIter i2 l2 k2) (hl1 : s.heap.IsList l1 xs) (hl2 : s.heap.IsTuple l2 ys) (hx : xs[k1]? = some x) (hy : ys[k2]? = some y)
    (hQ : ∀ h', IsZip h' z TI TO (rawInt s.heap.objs.size) → IsPair h' TO x y → h'.IsListIter i1 l1 (k1 + 1) → h'.IsTupleIter i2 l2 (k2 + 1) → IsPair h' s.heap.objs.size x y → h'.objs.size = s.heap.objs.size + 1 →
      (∀ c o, c ≠ z → c ≠ TO → c ≠ i1 → c ≠ i2 → s.heap.get? c = some o → h'.get? c = some o) → Q (.ref s.heap.objs.size) { s with heap := h' }) :
    wpAny (model prog w) A (Builtin.«zip.__next__» ⟨[.ref z], []⟩) (fun fin s' => ∃ v, fin = .done (.ret v) ∧ Q v s') E s := by
  show wpAny _ _ (field (.ref z) 2 >>= _) _ _ _
  refine wpAny_bind (wpAny_field hz rfl (x := .bool false) rfl ?_)
  show wpAny _ _ (field (.ref z) 3 >>= _) _ _ _
  refine wpAny_bind (wpAny_field hz rfl (x := .ref TI) rfl ?_)
  refine wpAny_bind (wpAny_seqItems hTI rfl ?_)
  show wpAny _ _ (Builtin.SmallTypes.ownedTupleIsFree (.ref z) >>= _) _ _ _
  refine wpAny_bind ?_
  unfold Builtin.SmallTypes.ownedTupleIsFree
  refine wpAny_bind (wpAny_field hz rfl (x := .none) rfl (wpAny_pure ?_))
  simp only [if_true]
  refine wpAny_bind (wpAny_rule ?_)
  refine wpAny_bind (wpAny_field hz rfl (x := .ref TO) rfl ?_)
  refine wpAny_bind (wpAny_setField_rec hz (by simp) fun h₁ hz₁ hs₁ => ?_)
  replace hz₁ : IsZip h₁ z TI TO .ellipsis := hz₁
  refine wpAny_bind ?_
  simp only [List.zipIdx_cons, List.zipIdx_nil, List.forIn_cons, List.forIn_nil]

  refine wpAny_bind (wpAny_bind (wpAny_onRaise ?_))
  show wpAny _ _ (Builtin.SmallTypes.nextOf (.ref i1) >>= _) _ _ _
  refine wpAny_bind (wpAny_nextOf_list_item (h1.extBut hs₁.extBut D.i1z) (hl1.extBut hs₁.extBut D.l1z) hx fun h₂ h1₂ hs₂ => wpAny_pure ?_)
  have hTO₂ : IsPair h₂ TO a b := hs₂.extBut _ _ D.TOi1 (hs₁.extBut _ _ D.TOz hTO)
  refine wpAny_bind (wpAny_seqItems hTO₂ rfl ?_)
  refine wpAny_bind (wpAny_updateSeq_pair hTO₂ fun h₃ hTO₃ hs₃ => ?_)
  replace hTO₃ : IsPair h₃ TO x b := hTO₃
  refine wpAny_bind (wpAny_letGo (wpAny_pure ?_))

  refine wpAny_bind (wpAny_bind (wpAny_onRaise ?_))
  show wpAny _ _ (Builtin.SmallTypes.nextOf (.ref i2) >>= _) _ _ _
  refine wpAny_bind (nextOf_tuple_item (((h2.extBut hs₁.extBut D.i2z).extBut hs₂.extBut D.i12.symm).extBut hs₃.extBut D.TOi2.symm)
    (((hl2.extBut hs₁.extBut D.l2z).extBut hs₂.extBut D.l2i1).extBut hs₃.extBut D.l2TO) hy fun h₄ h2₄ hs₄ => wpAny_pure ?_)
  have hTO₄ : IsPair h₄ TO x b := hs₄.extBut _ _ D.TOi2 hTO₃
  refine wpAny_bind (wpAny_seqItems hTO₄ rfl ?_)
  refine wpAny_bind (wpAny_updateSeq_pair hTO₄ fun h₅ hTO₅ hs₅ => ?_)
  replace hTO₅ : IsPair h₅ TO x y := hTO₅
  refine wpAny_bind (wpAny_letGo (wpAny_pure (wpAny_pure ?_)))

  refine wpAny_bind (wpAny_seqItems hTO₅ rfl ?_)
  refine wpAny_bind (wpAny_newTuple ?_)
  have hsz : h₅.objs.size = s.heap.objs.size := by rw [hs₅.1, hs₄.1, hs₃.1, hs₂.1, hs₁.1]
  have hz₅ : IsZip h₅ z TI TO .ellipsis := hs₅.extBut _ _ D.TOz.symm (hs₄.extBut _ _ D.i2z.symm (hs₃.extBut _ _ D.TOz.symm (hs₂.extBut _ _ D.i1z.symm hz₁)))
  have hk₅ : ∀ c o, c ≠ z → c ≠ TO → c ≠ i1 → c ≠ i2 → s.heap.get? c = some o → h₅.get? c = some o := fun c o c1 c2 c3 c4 e =>
    hs₅.extBut _ _ c2 (hs₄.extBut _ _ c4 (hs₃.extBut _ _ c2 (hs₂.extBut _ _ c3 (hs₁.extBut _ _ c1 e))))
  have h1₅ : h₅.IsListIter i1 l1 (k1 + 1) := ((h1₂.extBut hs₃.extBut D.TOi1.symm).extBut hs₄.extBut D.i12).extBut hs₅.extBut D.TOi1.symm
  have h2₅ : h₅.IsTupleIter i2 l2 (k2 + 1) := h2₄.extBut hs₅.extBut D.TOi2.symm
  have hzlt : z < h₅.objs.size := Heap.lt_size hz₅
  have hTOlt : TO < h₅.objs.size := Heap.lt_size hTO₅
  have hi1lt : i1 < h₅.objs.size := by obtain ⟨_, e, _⟩ := h1₅; exact Heap.lt_size e
  have hi2lt : i2 < h₅.objs.size := by obtain ⟨_, e, _⟩ := h2₅; exact Heap.lt_size e
  show wpAny _ _ (Builtin.SmallTypes.ownedTupleHandOut (.ref z) (.ref h₅.objs.size) >>= _) _ _ _
  refine wpAny_bind ?_
  unfold Builtin.SmallTypes.ownedTupleHandOut
  have hz₆ : IsZip (h₅.push { cls := .type "tuple", data := .seq #[x, y] }) z TI TO .ellipsis := Heap.get?_push_of_some _ hz₅
  refine wpAny_bind (wpAny_setField_rec hz₆ (by simp) fun h₇ hz₇ hs₇ => ?_)
  replace hz₇ : IsZip h₇ z TI TO (rawInt h₅.objs.size) := hz₇
  refine wpAny_setField_rec hz₇ (by simp) fun h₈ hz₈ hs₈ => ?_
  replace hz₈ : IsZip h₈ z TI TO (rawInt h₅.objs.size) := hz₈
  have up : ∀ c o, c ≠ z → h₅.get? c = some o → h₈.get? c = some o := fun c o c1 e => hs₈.extBut _ _ c1 (hs₇.extBut _ _ c1 (Heap.get?_push_of_some _ e))
  have hT₈ : IsPair h₈ h₅.objs.size x y := hs₈.extBut _ _ (Nat.ne_of_gt hzlt) (hs₇.extBut _ _ (Nat.ne_of_gt hzlt) (Heap.get?_push_size _ rfl))
  have hz8 : h₈.objs.size = h₅.objs.size + 1 := by rw [hs₈.1, hs₇.1, Heap.size_push]
  rw [hsz] at hz₈ hT₈ hz8
  refine wpAny_pure ⟨_, rfl, ?_⟩
  show Q (.ref h₅.objs.size) _
  rw [hsz]
  exact hQ h₈ hz₈ (up _ _ D.TOz hTO₅) (h1₅.at fun o e => up _ o D.i1z e) (h2₅.at fun o e => up _ o D.i2z e) hT₈ hz8 fun c o c1 c2 c3 c4 e => up c o c1 (hk₅ c o c1 c2 c3 c4 e)

theorem zipLT_next_end {z TI TO i1 i2 l1 l2 : Addr} {k1 k2 : Nat} {xs ys : Array Value} {a b : Value} {Q : Fin → Shared → Prop} (hh : A.handled = none) (D : ZipApart z TI TO i1 i2 l1 l2)
    (hz : IsZip s.heap z TI TO .none) (hTI : IsPair s.heap TI (.ref i1) (.ref i2)) (hTO : IsPair s.heap TO a b)
    (h1 : s.heap.IsListIter i1 l1 k1) (h2 : s.heap.IsTupleIter i2 l2 k2) (hl1 : s.heap.IsList l1 xs) (hl2 : s.heap.IsTuple l2 ys) (hend : xs[k1]? = none ∨ ys[k2]? = none)
    (hE : ∀ h' e, (∀ c o, c ≠ z → c ≠ TO → c ≠ i1 → c ≠ i2 → s.heap.get? c = some o → h'.get? c = some o) → (∃ o, h'.get? e = some o ∧ o.cls = .type "StopIteration") → E (.ref e) { s with heap := h' }) :
    wpAny (model prog w) A (Builtin.«zip.__next__» ⟨[.ref z], []⟩) Q E s := by
  show wpAny _ _ (field (.ref z) 2 >>= _) _ _ _
  refine wpAny_bind (wpAny_field hz rfl (x := .bool false) rfl ?_)
  show wpAny _ _ (field (.ref z) 3 >>= _) _ _ _
  refine wpAny_bind (wpAny_field hz rfl (x := .ref TI) rfl ?_)
  refine wpAny_bind (wpAny_seqItems hTI rfl ?_)
  show wpAny _ _ (Builtin.SmallTypes.ownedTupleIsFree (.ref z) >>= _) _ _ _
  refine wpAny_bind ?_
  unfold Builtin.SmallTypes.ownedTupleIsFree
  refine wpAny_bind (wpAny_field hz rfl (x := .none) rfl (wpAny_pure ?_))
  simp only [if_true]
  refine wpAny_bind (wpAny_rule ?_)
  refine wpAny_bind (wpAny_field hz rfl (x := .ref TO) rfl ?_)
  refine wpAny_bind (wpAny_setField_rec hz (by simp) fun h₁ hz₁ hs₁ => ?_)
  replace hz₁ : IsZip h₁ z TI TO .ellipsis := hz₁
  refine wpAny_bind ?_
  simp only [List.zipIdx_cons, List.zipIdx_nil, List.forIn_cons, List.forIn_nil]
  refine wpAny_bind (wpAny_bind (wpAny_onRaise ?_))
  show wpAny _ _ (Builtin.SmallTypes.nextOf (.ref i1) >>= _) _ _ _
  cases hx : xs[k1]? with
  | none =>
    refine wpAny_bind (wpAny_nextOf_list_end hh (h1.extBut hs₁.extBut D.i1z) (hl1.extBut hs₁.extBut D.l1z) hx fun h₂ e hs₂ he => ?_)
    obtain ⟨oe, hoe, hce⟩ := he
    have hz₂ : IsZip h₂ z TI TO .ellipsis := hs₂ _ _ D.i1z.symm hz₁
    have hez : e ≠ z := fun x => by subst x; rw [hz₂] at hoe; cases hoe; simp at hce
    refine wpAny_setField_rec hz₂ (by simp) fun h₃ _ hs₃ => hE h₃ e (fun c o c1 _ c3 _ x => hs₃.extBut _ _ c1 (hs₂ _ _ c3 (hs₁.extBut _ _ c1 x))) ⟨oe, hs₃.extBut _ _ hez hoe, hce⟩
  | some x =>
    have hy : ys[k2]? = none := by rcases hend with h | h; rw [hx] at h; cases h; exact h
    refine wpAny_bind (wpAny_nextOf_list_item (h1.extBut hs₁.extBut D.i1z) (hl1.extBut hs₁.extBut D.l1z) hx fun h₂ h1₂ hs₂ => wpAny_pure ?_)
    have hTO₂ : IsPair h₂ TO a b := hs₂.extBut _ _ D.TOi1 (hs₁.extBut _ _ D.TOz hTO)
    refine wpAny_bind (wpAny_seqItems hTO₂ rfl ?_)
    refine wpAny_bind (wpAny_updateSeq_pair hTO₂ fun h₃ hTO₃ hs₃ => ?_)
    refine wpAny_bind (wpAny_letGo (wpAny_pure ?_))
    refine wpAny_bind (wpAny_bind (wpAny_onRaise ?_))
    show wpAny _ _ (Builtin.SmallTypes.nextOf (.ref i2) >>= _) _ _ _
    refine wpAny_bind (nextOf_tuple_end hh (((h2.extBut hs₁.extBut D.i2z).extBut hs₂.extBut D.i12.symm).extBut hs₃.extBut D.TOi2.symm)
      (((hl2.extBut hs₁.extBut D.l2z).extBut hs₂.extBut D.l2i1).extBut hs₃.extBut D.l2TO) hy fun h₄ e hs₄ he => ?_)
    obtain ⟨oe, hoe, hce⟩ := he
    have hz₄ : IsZip h₄ z TI TO .ellipsis := hs₄ _ _ D.i2z.symm (hs₃.extBut _ _ D.TOz.symm (hs₂.extBut _ _ D.i1z.symm hz₁))
    have hez : e ≠ z := fun x => by subst x; rw [hz₄] at hoe; cases hoe; simp at hce
    refine wpAny_setField_rec hz₄ (by simp) fun h₅ _ hs₅ => hE h₅ e (fun c o c1 c2 c3 c4 x => hs₅.extBut _ _ c1 (hs₄ _ _ c4 (hs₃.extBut _ _ c2 (hs₂.extBut _ _ c3 (hs₁.extBut _ _ c1 x))))) ⟨oe, hs₅.extBut _ _ hez hoe, hce⟩

theorem pyNext_zipLT_item {z TI TO i1 i2 l1 l2 : Addr} {k1 k2 : Nat} {xs ys : Array Value} {x y a b : Value} {Q : Option Value → Shared → Prop} (D : ZipApart z TI TO i1 i2 l1 l2)
    (hz : IsZip s.heap z TI TO .none) (hTI : IsPair s.heap TI (.ref i1) (.ref i2)) (hTO : IsPair s.heap TO a b)
    (h1 : s.heap.IsListIter i1 l1 k1) (h2 : s.heap.IsTupleIter i2 l2 k2) (hl1 : s.heap.IsList l1 xs) (hl2 : s.heap.IsTuple l2 ys) (hx : xs[k1]? = some x) (hy : ys[k2]? = some y)
    (hQ : ∀ h', IsZip h' z TI TO (rawInt s.heap.objs.size) → IsPair h' TO x y → h'.IsListIter i1 l1 (k1 + 1) → h'.IsTupleIter i2 l2 (k2 + 1) → IsPair h' s.heap.objs.size x y → h'.objs.size = s.heap.objs.size + 1 →
      (∀ c o, c ≠ z → c ≠ TO → c ≠ i1 → c ≠ i2 → s.heap.get? c = some o → h'.get? c = some o) → Q (some (.ref s.heap.objs.size)) { s with heap := h' }) :
    wpAny (model prog w) A (pyNext (.ref z)) Q E s := by
  have hT : s.TypeIs (.ref z) "zip" := ⟨_, hz, rfl⟩
  unfold pyNext
  exact wpAny_bind (wpAny_attempt (wpAny_callSpecial?_slot (name := Str.ofString "__next__") hT F.slot_zip_next
    (wpAny_call_entry F.slot_zip_next hT F.entry_zip_next
      (zipLT_next_item D hz hTI hTO h1 h2 hl1 hl2 hx hy fun h' a1 a2 a3 a4 a5 a6 a7 => wpAny_pure (hQ h' a1 a2 a3 a4 a5 a6 a7)) (F.args_zip_next_1 _))))

theorem pyNext_zipLT_end {z TI TO i1 i2 l1 l2 : Addr} {k1 k2 : Nat} {xs ys : Array Value} {a b : Value} {Q : Option Value → Shared → Prop} (hh : A.handled = none) (D : ZipApart z TI TO i1 i2 l1 l2)
    (hz : IsZip s.heap z TI TO .none) (hTI : IsPair s.heap TI (.ref i1) (.ref i2)) (hTO : IsPair s.heap TO a b)
    (h1 : s.heap.IsListIter i1 l1 k1) (h2 : s.heap.IsTupleIter i2 l2 k2) (hl1 : s.heap.IsList l1 xs) (hl2 : s.heap.IsTuple l2 ys) (hend : xs[k1]? = none ∨ ys[k2]? = none)
    (hQ : ∀ h', (∀ c o, c ≠ z → c ≠ TO → c ≠ i1 → c ≠ i2 → s.heap.get? c = some o → h'.get? c = some o) → Q none { s with heap := h' }) : wpAny (model prog w) A (pyNext (.ref z)) Q E s := by
  have hT : s.TypeIs (.ref z) "zip" := ⟨_, hz, rfl⟩
  unfold pyNext
  refine wpAny_bind (wpAny_attempt (wpAny_callSpecial?_slot (name := Str.ofString "__next__") hT F.slot_zip_next
    (wpAny_call_entry F.slot_zip_next hT F.entry_zip_next (zipLT_next_end hh D hz hTI hTO h1 h2 hl1 hl2 hend fun h' e hk he => ?_) (F.args_zip_next_1 _))))
  obtain ⟨o, ho, hc⟩ := he
  refine wpAny_bind (wpAny_isInstance (T := "StopIteration") (b := true) ⟨o, ho, hc⟩ isSubtype_stop ?_)
  exact wpAny_pure (hQ _ hk)
end

abbrev zipLTH1 (h : Heap) (l1 : Addr) : Heap := h.push { cls := .type "list_iterator", data := .fields #[.ref l1, .int 0 0] }
abbrev zipLTH2 (h : Heap) (l1 l2 : Addr) : Heap := (zipLTH1 h l1).push { cls := .type "tuple_iterator", data := .fields #[.ref l2, .int 0 0] }
abbrev zipLTH3 (h : Heap) (l1 l2 : Addr) : Heap := (zipLTH2 h l1 l2).push { cls := .type "tuple", data := .seq #[.ref h.objs.size, .ref (zipLTH1 h l1).objs.size] }
abbrev zipLTH4 (h : Heap) (l1 l2 : Addr) : Heap := (zipLTH3 h l1 l2).push { cls := .type "tuple", data := .seq #[.none, .none] }
abbrev zipLTH5 (h : Heap) (l1 l2 : Addr) : Heap := (zipLTH4 h l1 l2).push { cls := .type "zip", data := .fields #[.none, .bool false, .bool false, .ref (zipLTH2 h l1 l2).objs.size, .ref (zipLTH3 h l1 l2).objs.size] }

theorem meets_zipLT_new (l1 l2 : Addr) (xs ys : Array Value) :
    Meets (Builtin.«zip.__new__» ⟨[.type "zip", .ref l1, .ref l2], []⟩) (fun _ R s => s.heap.IsList l1 xs ∧ s.heap.IsTuple l2 ys ∧
      R (.ok (.ret (.ref (zipLTH4 s.heap l1 l2).objs.size))) { s with heap := zipLTH5 s.heap l1 l2 }) :=
  .of_wp fun prog w A R s h => by
    obtain ⟨hp, g, d, tk, os⟩ := s; obtain ⟨hl1, hl2, h⟩ := h
    have hsub := sub_zip
    have hL1 : Heap.IsList (Shared.heap ⟨hp, g, d, tk, os⟩) l1 xs := hl1
    have hL2 : Heap.IsTuple (Shared.heap ⟨hp.push { cls := .type "list_iterator", data := .fields #[.ref l1, .int 0 0] }, g, d, tk, os⟩) l2 ys := Heap.IsTuple.push hl2 _
    wp_walk using wpAny_pyIter_list hL1, wpAny_pyIter_tuple hL2
    exact ⟨_, rfl, h⟩

section
variable {prog : Program} {w : World} {A : Around} {E : Value → Shared → Prop} {s : Shared}

theorem call_zipLT {l1 l2 : Addr} {xs ys : Array Value} {Q : Value → Shared → Prop} (hl1 : s.heap.IsList l1 xs) (hl2 : s.heap.IsTuple l2 ys)
    (h : ∀ h', IsZip h' (s.heap.objs.size + 4) (s.heap.objs.size + 2) (s.heap.objs.size + 3) .none → IsPair h' (s.heap.objs.size + 2) (.ref s.heap.objs.size) (.ref (s.heap.objs.size + 1)) →
      IsPair h' (s.heap.objs.size + 3) .none .none → h'.IsListIter s.heap.objs.size l1 0 → h'.IsTupleIter (s.heap.objs.size + 1) l2 0 → h'.objs.size = s.heap.objs.size + 5 →
      (∀ c o, s.heap.get? c = some o → h'.get? c = some o) → Q (.ref (s.heap.objs.size + 4)) { s with heap := h' }) :
    wpAny (model prog w) A (call (.type "zip") [.ref l1, .ref l2]) Q E s := by
  refine callType_new F.called_zip (by decide) (F.typeCall_zip_2 _ _) (F.newCall_zip_2 _ _) (fun obj => F.args_object_init_3 obj _ _) F.entry_zip_new
    (meets_zipLT_new l1 l2 xs ys) ⟨hl1, hl2, ?_⟩
  have z1 : (zipLTH1 s.heap l1).objs.size = s.heap.objs.size + 1 := Heap.size_push ..
  have z2 : (zipLTH2 s.heap l1 l2).objs.size = s.heap.objs.size + 2 := by rw [Heap.size_push, z1]
  have z3 : (zipLTH3 s.heap l1 l2).objs.size = s.heap.objs.size + 3 := by rw [Heap.size_push, z2]
  have z4 : (zipLTH4 s.heap l1 l2).objs.size = s.heap.objs.size + 4 := by rw [Heap.size_push, z3]
  have z5 : (zipLTH5 s.heap l1 l2).objs.size = s.heap.objs.size + 5 := by rw [Heap.size_push, z4]
  have g5 : (zipLTH5 s.heap l1 l2).get? (zipLTH4 s.heap l1 l2).objs.size = some _ := Heap.get?_push_size _ rfl
  have g4 : (zipLTH5 s.heap l1 l2).get? (zipLTH3 s.heap l1 l2).objs.size = some _ := Heap.get?_push_of_some _ (Heap.get?_push_size _ rfl)
  have g3 : (zipLTH5 s.heap l1 l2).get? (zipLTH2 s.heap l1 l2).objs.size = some _ := Heap.get?_push_of_some _ (Heap.get?_push_of_some _ (Heap.get?_push_size _ rfl))
  have g2 : (zipLTH5 s.heap l1 l2).get? (zipLTH1 s.heap l1).objs.size = some _ := Heap.get?_push_of_some _ (Heap.get?_push_of_some _ (Heap.get?_push_of_some _ (Heap.get?_push_size _ rfl)))
  have g1 : (zipLTH5 s.heap l1 l2).get? s.heap.objs.size = some _ := Heap.get?_push_of_some _ (Heap.get?_push_of_some _ (Heap.get?_push_of_some _ (Heap.get?_push_of_some _ (Heap.get?_push_size _ rfl))))
  show _ ∧ _
  rw [z2, z3, z4] at g5
  rw [z1, z2] at g3
  rw [z3] at g4
  rw [z1] at g2
  rw [z4]
  exact ⟨⟨_, g5, rfl⟩, h _ g5 g3 g4 ⟨_, g1, rfl, rfl⟩ ⟨_, g2, rfl, rfl⟩ z5 fun c o x =>
    Heap.get?_push_of_some _ (Heap.get?_push_of_some _ (Heap.get?_push_of_some _ (Heap.get?_push_of_some _ (Heap.get?_push_of_some _ x))))⟩
end
end RZ
namespace RZ
open PySem PySem.Spec PyProof.Rows L2
/-- the list at a, the tuple at b as they stand at each turn, the items in new pairs -/
def ItzLT (K : PySem.W.Frag) (a b : Addr) : It :=
  ⟨fun i H => ∃ (xs ys : List V) (x y : V), SqL K H a xs ∧ SqT K H b ys ∧ xs[i]? = some x ∧ ys[i]? = some y,
    fun i H v H' => ∃ T x y, v = .ref T ∧ H T = none ∧ H' = upd H T (.tup [x, y]) ∧ (∀ xs, SqL K H a xs → xs[i]? = some x) ∧ ∀ ys, SqT K H b ys → ys[i]? = some y,
    fun i H => ∃ xs ys : List V, SqL K H a xs ∧ SqT K H b ys ∧ (xs.length ≤ i ∨ ys.length ≤ i)⟩
theorem turn_zipLT {P : Program} {w : World} {K : PySem.W.Frag} {elts : List Expr} {kk : Nat} {tpos : Pos} {a b z TI TO i1 i2 : Addr} (D : ZipApart z TI TO i1 i2 a b) :
    Turn P w K (.Tuple elts kk tpos) (ItzLT K a b) [z, TI, TO, i1, i2] z (fun i h => IsZip h z TI TO .none ∧ IsPair h TI (.ref i1) (.ref i2) ∧ (∃ x y, IsPair h TO x y) ∧ h.IsListIter i1 a i ∧ h.IsTupleIter i2 b i) where
  mem := by simp
  obj := fun i h st c hc => by
    obtain ⟨hz, hTI, ⟨x, y, hTO⟩, ⟨o1, e1, _, d1⟩, ⟨o2, e2, _, d2⟩⟩ := st
    have e' : c = z ∨ c = TI ∨ c = TO ∨ c = i1 ∨ c = i2 := by simpa using hc
    rcases e' with q | q | q | q | q
    · rw [q]; exact ⟨_, hz, fun v q => nomatch q⟩
    · rw [q]; exact ⟨_, hTI, fun v q => nomatch q⟩
    · rw [q]; exact ⟨_, hTO, fun v q => nomatch q⟩
    · rw [q]; exact ⟨o1, e1, fun v q => by rw [d1] at q; cases q⟩
    · rw [q]; exact ⟨o2, e2, fun v q => by rw [d2] at q; cases q⟩
  keep := fun i h h' st k => by
    obtain ⟨hz, hTI, ⟨x, y, hTO⟩, h1, h2⟩ := st
    exact ⟨k z (by simp) _ hz, k TI (by simp) _ hTI, ⟨x, y, k TO (by simp) _ hTO⟩, h1.at fun o q => k i1 (by simp) o q, h2.at fun o q => k i2 (by simp) o q⟩
  item := by
    intro X hP hw hK hc i pins s σ H E I hf st hg
    subst hP hw hK
    obtain ⟨hz, hTI, ⟨x0, y0, hTO⟩, h1, h2⟩ := st
    obtain ⟨xs, ys, x, y, hqx, hqy, hx, hy⟩ := hg
    obtain ⟨its, rv, p, _⟩ := I.list hqx
    obtain ⟨its2, rv2, p2, _⟩ := I.tuple hqy
    obtain ⟨u, hu, ru⟩ := rv.get hx
    obtain ⟨u2, hu2, ru2⟩ := rv2.get hy
    have hzl : z < s.heap.objs.size := Heap.lt_size hz
    refine pyNext_zipLT_item D hz hTI hTO h1 h2 p.isList p2 (x := u) (y := u2) (by simpa using hu) (by simpa using hu2) fun h' z' TO' h1' h2' hT hsz hk => ?_
    refine ⟨_, rfl, wpAny_letOwnedTupleGo_zip (s := { s with heap := h' }) z' fun h'' z'' sb => ?_⟩
    have hT2 : h''.get? s.heap.objs.size = some { cls := .type "tuple", data := .seq #[u, u2] } := (sb.2 _ (Nat.ne_of_gt hzl)).trans hT
    have new : ObjOk X.prog X.w (upd H s.heap.objs.size (.tup [x, y])) h'' s.heap.objs.size (.tup [x, y]) :=
      ⟨by show 2 ≤ sizeLine; decide, [u, u2], .cons ru (.cons ru2 .nil), ⟨_, hT2, rfl, _, rfl⟩⟩
    have I1 : Inv X pins σ (upd H s.heap.objs.size (.tup [x, y])) { s with heap := h'' } :=
      I.turnedNew (t' := s.toks) (ch := [z, TI, TO, i1, i2]) (fun c o hb q => (sb.2 c (fun q' => hb (by simp [q']))).trans (hk c o (fun q' => hb (by simp [q'])) (fun q' => hb (by simp [q'])) (fun q' => hb (by simp [q'])) (fun q' => hb (by simp [q'])) q)) hf (Nat.le_refl _) new
    refine ⟨.ref s.heap.objs.size, _, I1, rfl, ⟨_, x, y, rfl, I.hok.fresh (Nat.le_refl _), rfl, fun l hl => by rw [I.list_inj hl hqx]; exact hx, fun l hl => by rw [I.tuple_inj hl hqy]; exact hy⟩, ⟨z'', ?_, ⟨u, u2, ?_⟩, ?_, ?_⟩, fun c hcm => ?_⟩
    · exact (sb.2 _ D.TIz).trans (hk _ _ D.TIz D.TITO D.TIi1 D.TIi2 hTI)
    · exact (sb.2 _ D.TOz).trans TO'
    · exact h1'.at fun o q => (sb.2 _ D.i1z).trans q
    · exact h2'.at fun o q => (sb.2 _ D.i2z).trans q
    · have hlt : c < s.heap.objs.size := by
        have e' : c = z ∨ c = TI ∨ c = TO ∨ c = i1 ∨ c = i2 := by simpa using hcm
        rcases e' with q | q | q | q | q
        · rw [q]; exact hzl
        · rw [q]; exact Heap.lt_size hTI
        · rw [q]; exact Heap.lt_size hTO
        · rw [q]; obtain ⟨_, e1, _⟩ := h1; exact Heap.lt_size e1
        · rw [q]; obtain ⟨_, e2, _⟩ := h2; exact Heap.lt_size e2
      rw [upd_ne (Nat.ne_of_lt hlt)]
      exact (hf c hcm).1
  done := by
    intro X hP hw hK hc i pins s σ H E I hf st hg
    subst hP hw hK
    obtain ⟨hz, hTI, ⟨x0, y0, hTO⟩, h1, h2⟩ := st
    obtain ⟨xs, ys, hqx, hqy, hend⟩ := hg
    obtain ⟨its, rv, p, _⟩ := I.list hqx
    obtain ⟨its2, rv2, p2, _⟩ := I.tuple hqy
    have l1 := rv.length
    have l2 := rv2.length
    have he : its.toArray[i]? = none ∨ its2.toArray[i]? = none := by
      rcases hend with q | q
      · exact .inl (by simp; omega)
      · exact .inr (by simp; omega)
    exact pyNext_zipLT_end (I.ok.hd hc) D hz hTI hTO h1 h2 p.isList p2 he fun h' hk => ⟨rfl, I.turnedL (t' := s.toks) (ch := [z, TI, TO, i1, i2]) (fun c o hb q =>
      hk c o (fun q' => hb (by simp [q'])) (fun q' => hb (by simp [q'])) (fun q' => hb (by simp [q'])) (fun q' => hb (by simp [q'])) q) hf⟩
  self := fun A i s Q E st h => wpAny_pyIter_zip st.1 h

def iZipLT (K : PySem.W.Frag) (ta : TA) : TI := fun σ H R => ta σ H fun vs H1 => ∃ a b xs ys, vs = [.ref a, .ref b] ∧ SqL K H1 a xs ∧ SqT K H1 b ys ∧ R (ItzLT K a b) H1
theorem pi_zipLT {X : Cx} {e e2 : Expr} {ta : TA} {p pos tpos : Pos} {elts : List Expr} {kk : Nat} (hg : Gl X "zip") (hm : X.mg "zip" = none) (ha : PA X [e, e2] ta)
    (hs : starEach [e, e2] X.env = (false, eval e X.env) :: starEach [e2] X.env := by rfl) (hpl : (backTo pos (starEach [e2] X.env)).any (·.1) = false := by rfl) :
    PI X (.Tuple elts kk tpos) (.Call (.Name "zip" p) [e, e2] [] pos) (iZipLT X.K ta) := by
  refine ⟨fun pins s σ H R I h => ?_⟩
  refine Call_ (ld_blt I hg hm PyProof.Rows.boot_zip (PyProof.Rows.callWith_type1 (thn (ha.run pos pins s σ H _ I h) fun us s1 ⟨vs, H1, I1, r1, q1⟩ => ?_) hs hpl))
  obtain ⟨a, b, xs, ys, ex, q1⟩ := q1
  subst ex
  cases r1 with
  | cons r rr =>
    cases rr with
    | cons r' rr =>
      cases rr
      cases r
      cases r'
      have fresh5 : ∀ c, c ∈ [s1.heap.objs.size + 4, s1.heap.objs.size + 2, s1.heap.objs.size + 3, s1.heap.objs.size, s1.heap.objs.size + 1] → FpOk X pins H1 c := fun c hcm => by
        have e' : c = s1.heap.objs.size + 4 ∨ c = s1.heap.objs.size + 2 ∨ c = s1.heap.objs.size + 3 ∨ c = s1.heap.objs.size ∨ c = s1.heap.objs.size + 1 := by simpa using hcm
        have hle : s1.heap.objs.size ≤ c := by
          rcases e' with z | z | z | z | z
          · rw [z]; exact Nat.le_add_right _ _
          · rw [z]; exact Nat.le_add_right _ _
          · rw [z]; exact Nat.le_add_right _ _
          · rw [z]; exact Nat.le_refl _
          · rw [z]; exact Nat.le_add_right _ _
        exact I1.fpOk hle (I1.hok.fresh hle)
      obtain ⟨hqx, hqy, q⟩ := q1
      obtain ⟨its, rv, p1, _⟩ := I1.list hqx
      obtain ⟨its2, rv2, p2, _⟩ := I1.tuple hqy
      obtain ⟨o2, ho2, _⟩ := id p2
      refine call_zipLT p1.isList (show s1.heap.IsTuple b its2.toArray from p2) fun h' hz hTI hTO h1 h2 hsz hk => wpAny_pyIter_zip hz ?_
      have I2 : Inv X pins σ H1 { s1 with heap := h' } := I1.kept (t' := s1.toks) hk
      exact ⟨s1.heap.objs.size + 4, [s1.heap.objs.size + 4, s1.heap.objs.size + 2, s1.heap.objs.size + 3, s1.heap.objs.size, s1.heap.objs.size + 1], _, _, H1, rfl, I2, turn_zipLT (PySem.W.ktu_apart s1.heap.objs.size a b p1.lt (Heap.lt_size ho2)), ⟨hz, hTI, ⟨_, _, hTO⟩, h1, h2⟩, fresh5, q⟩

end RZ

end
section
set_option Elab.async false
set_option linter.all false
set_option maxRecDepth 100000
set_option maxHeartbeats 1000000
/-! EwV: more typed words. -/
namespace Ew
open PySem PySem.Spec PyProof.Rows L2
theorem passE0 {X : Cx} {σ : L2.St} : PassesAt (L2.CX X.prog X.w) X σ E0 := fun pins H s e s' I c => passL pins σ H s e s' I c
section
variable {W : Wd} {Γ Γ' : Gam} {K : PySem.W.Frag} {T U A C P : Typ} {Ts Us : List Typ} {ds es : List PyData} {d : PyData} {ta : TA} {te tb : TE} {g : TG} {vs : List Nat} {i j : Int}
theorem RpA.rep {M : Addr → Prop} {H : Hp} {vs : List V} {ds : List PyData} (h : RpA M K H vs ds) : ∀ n : Nat, RpA M K H (List.replicate n vs).flatten (List.replicate n ds).flatten
  | 0 => .nil
  | n + 1 => by
    rw [List.replicate_succ, List.replicate_succ, List.flatten_cons, List.flatten_cons]
    exact h.append (RpA.rep h n)
theorem TysV.rep {M B : Addr → Prop} {H : Hp} {vs : List V} (h : TysV M B Ts vs H) : ∀ n : Nat, TysV M B (List.replicate n Ts).flatten (List.replicate n vs).flatten H
  | 0 => True.intro
  | n + 1 => by
    rw [List.replicate_succ, List.replicate_succ, List.flatten_cons, List.flatten_cons]
    exact h.append (TysV.rep h n)
theorem len_rep {α : Type} (l : List α) (n : Nat) : (List.replicate n l).flatten.length = n * l.length := by
  induction n with
  | zero => simp
  | succ n ih => rw [List.replicate_succ, List.flatten_cons, List.length_append, ih]; rw [Nat.succ_mul]; omega
/-- list * int -/
theorem opt_repL (h0 : -1000 ≤ j) (h1 : j ≤ 1000) (hz : Ts.length ≤ 1000) : OpT W rRep (lstT Ts) (dt K (.int j)) (lstT (List.replicate j.toNat Ts).flatten) := fun u v H c hu hv Q q => by
  cases hv
  obtain ⟨a, xs, rfl, ha, h2, h3⟩ := hu
  refine ⟨a, j, xs, rfl, rfl, h2, by omega, by omega, ?_, fun p hp => q _ _ (Ex.new hp) ⟨p, _, rfl, c.nm hp, upd_same, (h3.rep _).up (Ex.new (B := W.B) hp).toW⟩⟩
  have e := h3.length
  refine sz_le ?_
  have : xs.length * j.toNat ≤ 1000 * 1000 := Nat.mul_le_mul (by omega) (by omega)
  omega
/-- tuple * int, not empty, at least 2 -/
theorem opt_repT (h0 : 2 ≤ j) (h1 : j ≤ 1000) (hn : ds ≠ []) (hz : ds.length ≤ 1000) : OpT W (rRepT K) (dt K (.tuple ds)) (dt K (.int j)) (dt K (.tuple (List.replicate j.toNat ds).flatten)) := fun u v H c hu hv Q q => by
  cases hv
  cases hu with
  | @tup a xs _ h2 h3 =>
    have e := h3.length
    refine ⟨a, j, xs, rfl, rfl, h2, fun z => hn ?_, h0, h1, by omega, fun p hp => q _ _ (Ex.new hp) (.tup (SqT.of upd_same) (RpA.up (Ex.new (B := W.B) hp).toW (h3.rep _)))⟩
    subst z
    exact List.eq_nil_of_length_eq_zero (by simpa using e.symm)
/-! ### a list and a tuple together -/
theorem walk_zipLT {a b : Addr} {xs ys : List V} {n : Nat} (hn : n = min xs.length ys.length) : Walk (RZ.ItzLT K a b) n (fun H => SqL K H a xs ∧ SqT K H b ys) (YPair (fun i => xs[i]?) (fun i => ys[i]?)) := by
  subst hn
  refine ⟨fun i _ hi q => ?_, fun _ q => ⟨xs, ys, q.1, q.2, by omega⟩, fun i H v H' _ q y => ?_⟩
  · have h1 : i < xs.length := by omega
    have h2 : i < ys.length := by omega
    exact ⟨xs, ys, xs[i], ys[i], q.1, q.2, by simp [h1], by simp [h2]⟩
  · obtain ⟨T, x, z, h1, h2, h3, h4, h5⟩ := y
    exact ⟨T, x, z, h1, h2, h3, h4 xs q.1, h5 ys q.2⟩
theorem tyi_zipLT (h : TyA W Γ ta [lstT Ts, tupT K Us]) : TyI W Γ (RZ.iZipLT K ta) ((Ts.zip Us).map fun p => tupT K [p.1, p.2]) := fun σ H c g R q => h σ H c g _ fun us H1 e hu => by
  obtain ⟨v, w, rfl, ⟨a, xs, rfl, h0, h2, h3⟩, ⟨b, ys, rfl, h4, h5⟩⟩ := hu.two
  refine ⟨a, b, xs, ys, rfl, SqL.of h2, h4, q _ H1 e ⟨fun H => SqL K H a xs ∧ SqT K H b ys, YPair (fun i => xs[i]?) (fun i => ys[i]?), ?_, ⟨SqL.of h2, h4⟩, fun M' m => ⟨fun Ha Hb f z => ⟨f.sqL (m.nm h2 h0) z.1, f.sqT z.2⟩, fun i Ha x Hb T hT f z y => ?_⟩⟩⟩
  · refine walk_zipLT ?_
    rw [List.length_map, List.length_zip]
    exact zip_len h3.length h5.length
  · obtain ⟨Tp, x0, y0, rfl, hn, rfl, ex, ey⟩ := y
    obtain ⟨A, C, q1, q2, rfl⟩ := zip_map_get hT
    obtain ⟨x1, e1, r1⟩ := (m.tys h3).get q1
    obtain ⟨y1, e2, r2⟩ := (m.tys h5).get q2
    have ex' := e1.symm.trans ex
    cases ex'
    have ey' := e2.symm.trans ey
    cases ey'
    exact ⟨Ex.new hn, Tp, _, rfl, SqT.of upd_same, Typ.up _ (f.trans ((Ex.new (B := W.B) hn).toM m.sub)) r1, Typ.up _ (f.trans ((Ex.new (B := W.B) hn).toM m.sub)) r2, True.intro⟩
theorem tyi_zipLTA {β γ : Type} {as : List β} {bs : List γ} {f : β → PyData} {h : γ → PyData} (ha : Ty W Γ te (dt K (.list (as.map f)))) (hb : Ty W Γ tb (dt K (.tuple (bs.map h)))) :
    TyI W Γ (RZ.iZipLT K (tCons te (tCons tb tNil))) ((as.zip bs).map fun p => tupT K [dt K (f p.1), dt K (h p.2)]) := by
  have z := tyi_zipLT (W := W) (Γ := Γ) (K := K) (Ts := (as.map f).map (dt K)) (Us := (bs.map h).map (dt K)) (tya_cons (ha.sub fun _ _ _ => data_lstT) (tya_cons (hb.sub fun _ _ _ => data_tupT) tya_nil))
  have e : ((((as.map f).map (dt K)).zip ((bs.map h).map (dt K))).map fun p => tupT K [p.1, p.2]) = ((as.zip bs).map fun p => tupT K [dt K (f p.1), dt K (h p.2)]) := by
    rw [List.map_map, List.map_map, List.zip_map, List.map_map]
    rfl
  rw [e] at z
  exact z
theorem opt_repI (h0 : -1000 ≤ j) (h1 : j ≤ 1000) (hz : ds.length ≤ 1000) : OpT W rRep (dt K (.list ds)) (dt K (.int j)) (dt K (.list (List.replicate j.toNat ds).flatten)) := fun u v H c hu hv Q q =>
  opt_repL (Ts := ds.map (dt K)) h0 h1 (by simpa using hz) u v H c (data_lstT hu) hv Q fun w H1 e z => q w H1 e (lstT_data (by
    have e2 : (List.replicate j.toNat (ds.map (dt K))).flatten = ((List.replicate j.toNat ds).flatten).map (dt K) := by rw [List.map_flatten, List.map_replicate]
    rw [e2] at z; exact z))
end
/-! ### words, K told -/
section
variable {X : Cx} {e : Expr} {es : List Expr} {t : TA} {p pos : Pos} {te : TE}
theorem k_len {K : PySem.W.Frag} (hK : X.K = K) (m : X.mg "len" = none) (ha : PA X (e :: es) t) (hg : Gl X "len" := by rfl) (he : starEach (e :: es) X.env = (false, eval e X.env) :: starEach es X.env := by rfl) (hpl : (backTo pos (starEach es X.env)).any (·.1) = false := by rfl) :
    PE X (.Call (.Name "len" p) (e :: es) [] pos) (tCB (rLen K) t) := hK ▸ bi_len m ha hg he hpl
theorem k_isi {K : PySem.W.Frag} (hK : X.K = K) (m : X.mg "isinstance" = none) (ha : PA X (e :: es) t) (hg : Gl X "isinstance" := by rfl) (he : starEach (e :: es) X.env = (false, eval e X.env) :: starEach es X.env := by rfl) (hpl : (backTo pos (starEach es X.env)).any (·.1) = false := by rfl) :
    PE X (.Call (.Name "isinstance" p) (e :: es) [] pos) (tCB (rIsi K) t) := hK ▸ bi_isi m ha hg he hpl
theorem k_isi2 {K : PySem.W.Frag} (hK : X.K = K) (m : X.mg "isinstance" = none) (ha : PA X (e :: es) t) (hg : Gl X "isinstance" := by rfl) (he : starEach (e :: es) X.env = (false, eval e X.env) :: starEach es X.env := by rfl) (hpl : (backTo pos (starEach es X.env)).any (·.1) = false := by rfl) :
    PE X (.Call (.Name "isinstance" p) (e :: es) [] pos) (tCB (rIsiT K) t) := hK ▸ bi_isi2 m ha hg he hpl
theorem k_tuple {K : PySem.W.Frag} (hK : X.K = K) (m : X.mg "tuple" = none) (ha : PA X (e :: es) t) (hg : Gl X "tuple" := by rfl) (he : starEach (e :: es) X.env = (false, eval e X.env) :: starEach es X.env := by rfl) (hpl : (backTo pos (starEach es X.env)).any (·.1) = false := by rfl) :
    PE X (.Call (.Name "tuple" p) (e :: es) [] pos) (tCB (rTupOf K) t) := hK ▸ bi_tuple m ha hg he hpl
theorem k_list {K : PySem.W.Frag} (hK : X.K = K) (m : X.mg "list" = none) (ha : PA X (e :: es) t) (hg : Gl X "list" := by rfl) (he : starEach (e :: es) X.env = (false, eval e X.env) :: starEach es X.env := by rfl) (hpl : (backTo pos (starEach es X.env)).any (·.1) = false := by rfl) :
    PE X (.Call (.Name "list" p) (e :: es) [] pos) (tCB (rLstOf K) t) := hK ▸ bi_list m ha hg he hpl
theorem k_sum {K : PySem.W.Frag} (hK : X.K = K) (m : X.mg "sum" = none) (ha : PA X (e :: es) t) (hc : X.calm = true := by rfl) (hg : Gl X "sum" := by rfl) (he : starEach (e :: es) X.env = (false, eval e X.env) :: starEach es X.env := by rfl) (hpl : (backTo pos (starEach es X.env)).any (·.1) = false := by rfl) :
    PE X (.Call (.Name "sum" p) (e :: es) [] pos) (tCB (rSum K) t) := hK ▸ bi_sum m ha hc hg he hpl
theorem k_all {K : PySem.W.Frag} (hK : X.K = K) (m : X.mg "all" = none) (ha : PA X (e :: es) t) (hc : X.calm = true := by rfl) (hg : Gl X "all" := by rfl) (he : starEach (e :: es) X.env = (false, eval e X.env) :: starEach es X.env := by rfl) (hpl : (backTo pos (starEach es X.env)).any (·.1) = false := by rfl) :
    PE X (.Call (.Name "all" p) (e :: es) [] pos) (tCB (rAll K) t) := hK ▸ bi_all m ha hc hg he hpl
theorem k_max1 {K : PySem.W.Frag} (hK : X.K = K) (m : X.mg "max" = none) (ha : PA X (e :: es) t) (hc : X.calm = true := by rfl) (hg : Gl X "max" := by rfl) (he : starEach (e :: es) X.env = (false, eval e X.env) :: starEach es X.env := by rfl) (hpl : (backTo pos (starEach es X.env)).any (·.1) = false := by rfl) :
    PE X (.Call (.Name "max" p) (e :: es) [] pos) (tCB (rMax K) t) := hK ▸ bi_max1 m ha hc hg he hpl
theorem k_add {K : PySem.W.Frag} (hK : X.K = K) : OpR X (binaryOp .Add) (rAddA K) := hK ▸ op_addA
theorem k_eq {K : PySem.W.Frag} (hK : X.K = K) (hu : X.A.units + 64 < cLine) : OpR X (compareOp .Eq) (rEqA K) := hK ▸ op_eqA hu
theorem k_ne {K : PySem.W.Frag} (hK : X.K = K) (hu : X.A.units + 64 < cLine) : OpR X (compareOp .NotEq) (rNeA K) := hK ▸ op_neA hu
theorem k_repT {K : PySem.W.Frag} (hK : X.K = K) : OpR X (binaryOp .Mult) (rRepT K) := hK ▸ op_repT
theorem k_ix {K : PySem.W.Frag} (hK : X.K = K) : IxR X (rIx K) := hK ▸ ix_seq
theorem k_slT {K : PySem.W.Frag} (hK : X.K = K) : SlR X (rSlT K) := hK ▸ sl_tup
theorem k_slL {K : PySem.W.Frag} (hK : X.K = K) : SlR X (rSlL K) := hK ▸ sl_list
theorem k_itup {K : PySem.W.Frag} (hK : X.K = K) {tg l : Expr} {tl : TE} (hl : PE X l tl) : PI X tg l (iTup K tl) := hK ▸ pi_tup hl
theorem k_ilist {K : PySem.W.Frag} (hK : X.K = K) {tg l : Expr} {tl : TE} (hl : PE X l tl) : PI X tg l (iList K tl) := hK ▸ pi_list hl
theorem k_ienum {K : PySem.W.Frag} (hK : X.K = K) {tpos : Pos} {elts : List Expr} {kk : Nat} (hm : X.mg "enumerate" = none) (ha : PA X [e] t) (hg : Gl X "enumerate" := by rfl) (hs : starEach [e] X.env = [(false, eval e X.env)] := by rfl) :
    PI X (.Tuple elts kk tpos) (.Call (.Name "enumerate" p) [e] [] pos) (iEnum K t) := hK ▸ pi_enum hg hm ha hs
theorem k_izip {K : PySem.W.Frag} (hK : X.K = K) {e2 : Expr} {tpos : Pos} {elts : List Expr} {kk : Nat} (hm : X.mg "zip" = none) (ha : PA X [e, e2] t) (hg : Gl X "zip" := by rfl) (hs : starEach [e, e2] X.env = (false, eval e X.env) :: starEach [e2] X.env := by rfl) (hpl : (backTo pos (starEach [e2] X.env)).any (·.1) = false := by rfl) :
    PI X (.Tuple elts kk tpos) (.Call (.Name "zip" p) [e, e2] [] pos) (RZ.iZipA K t) := hK ▸ RZ.pi_zipA hg hm ha hs hpl
theorem k_izipLT {K : PySem.W.Frag} (hK : X.K = K) {e2 : Expr} {tpos : Pos} {elts : List Expr} {kk : Nat} (hm : X.mg "zip" = none) (ha : PA X [e, e2] t) (hg : Gl X "zip" := by rfl) (hs : starEach [e, e2] X.env = (false, eval e X.env) :: starEach [e2] X.env := by rfl) (hpl : (backTo pos (starEach [e2] X.env)).any (·.1) = false := by rfl) :
    PI X (.Tuple elts kk tpos) (.Call (.Name "zip" p) [e, e2] [] pos) (RZ.iZipLT K t) := hK ▸ RZ.pi_zipLT hg hm ha hs hpl
theorem k_gtup {K : PySem.W.Frag} (hK : X.K = K) {ts : List Expr} {k : Nat} {u : TGs} {n : Nat} (h : PGs X ts u) (hc : X.calm = true := by rfl) (hn : (assignEach ts X.env).length = n := by rfl) (hst : (assignEach ts X.env).findIdx? (·.1) = none := by rfl) : PG X (.Tuple ts k pos) (gTup K n u) := hK ▸ pg_tup hc h hn hst
theorem k_gunl {K : PySem.W.Frag} (hK : X.K = K) {ts : List Expr} {k : Nat} {u : TGs} {n : Nat} (h : PGs X ts u) (hc : X.calm = true := by rfl) (hn : (assignEach ts X.env).length = n := by rfl) (hst : (assignEach ts X.env).findIdx? (·.1) = none := by rfl) : PG X (.Tuple ts k pos) (gUnl K n u) := hK ▸ pg_unl hc h hn hst
end
end Ew

end
section
set_option Elab.async false
set_option linter.all false
set_option maxRecDepth 100000
set_option maxHeartbeats 1000000
/-! EwU: lines and tables of ints as data; their equality; more typed words. -/
namespace Ew
open PySem PySem.Spec PyProof.Rows L2
def sizeD : PyData → Nat
  | .tuple l => l.length
  | .list l => l.length
  | .str s => s.length
  | .dict l => l.length
  | _ => 0
def intsD (l : List Int) : PyData := .tuple (l.map .int)
def linD (l : List Int) : PyData := .list (l.map .int)
def tabD (m : List (List Int)) : PyData := .tuple (m.map intsD)
def sm (v : Int) : Prop := v.natAbs < 2 ^ 4096
theorem sm_log {v : Int} (h : sm v) : v.natAbs.log2 < 5000 := by
  by_cases z : v.natAbs = 0
  · rw [z]; decide
  · have := (Nat.log2_lt z).mpr h
    omega
theorem sm_mul {a b : Int} (h : sm a) (k : sm b) : L2.CMulW a b := by
  have h1 := sm_log h
  have h2 := sm_log k
  unfold L2.CMulW
  omega
def sml (l : List Int) : Prop := l.length ≤ 1000 ∧ ∀ v ∈ l, sm v
def smt (m : List (List Int)) : Prop := m.length ≤ 1000 ∧ ∀ l ∈ m, sml l
def isWholeD : PyData → Bool
  | .int _ => true
  | _ => false
/-! ### equality of data -/
theorem lay_whole : ∀ {ds : List PyData}, ds.all isWholeD = true → PyData.canLayAll0 ds = true ∧ PyData.depthAll ds = 0
  | [], _ => ⟨rfl, rfl⟩
  | d :: ds, h => by
    rw [List.all_cons, Bool.and_eq_true] at h
    obtain ⟨h1, h2⟩ := h
    obtain ⟨k1, k2⟩ := lay_whole h2
    cases d <;> simp [isWholeD] at h1
    exact ⟨by simp [PyData.canLayAll0, PyData.canLay0, k1], by simp [PyData.depthAll, PyData.depth, k2]⟩
theorem shaped_whole {ds : List PyData} (h : ds.all isWholeD = true) : SeqAt.shaped (.tuple ds) = true := by
  obtain ⟨k1, k2⟩ := lay_whole h
  simp [SeqAt.shaped, PyData.canLay0, PyData.depth, k1, k2]
theorem all_whole (l : List Int) : (l.map PyData.int).all isWholeD = true := by
  rw [List.all_map]
  exact List.all_eq_true.mpr fun _ _ => rfl
theorem shaped_ints (l : List Int) : SeqAt.shaped (intsD l) = true := shaped_whole (all_whole l)
theorem lay_tab : ∀ m : List (List Int), PyData.canLayAll0 (m.map intsD) = true ∧ PyData.depthAll (m.map intsD) ≤ 1
  | [] => ⟨rfl, by simp [PyData.depthAll]⟩
  | l :: m => by
    obtain ⟨k1, k2⟩ := lay_tab m
    obtain ⟨h1, h2⟩ := lay_whole (all_whole l)
    refine ⟨?_, ?_⟩
    · rw [List.map_cons, PyData.canLayAll0, k1, intsD, PyData.canLay0, h1]; rfl
    · rw [List.map_cons, PyData.depthAll, intsD, PyData.depth, h2]
      exact Nat.max_le.mpr ⟨Nat.le_refl _, k2⟩
theorem shaped_tab (m : List (List Int)) : SeqAt.shaped (tabD m) = true := by
  obtain ⟨k1, k2⟩ := lay_tab m
  unfold SeqAt.shaped tabD
  rw [PyData.canLay0, k1, PyData.depth, Bool.true_and]
  exact decide_eq_true (by omega)
theorem eqv_nil (ds : List PyData) : PyData.eqv (.tuple ds) (.tuple []) = decide (ds.length = 0) := by
  cases ds <;> simp [PyData.eqv, PyData.eqvAll]
theorem eqv_nilL (ds : List PyData) : PyData.eqv (.list ds) (.list []) = decide (ds.length = 0) := by
  cases ds <;> simp [PyData.eqv, PyData.eqvAll]
theorem eqvAll_ints : ∀ a b : List Int, PyData.eqvAll (a.map .int) (b.map .int) = decide (a = b)
  | [], [] => by simp [PyData.eqvAll]
  | [], b :: bs => by simp [PyData.eqvAll]
  | a :: as, [] => by simp [PyData.eqvAll]
  | a :: as, b :: bs => by
    rw [List.map_cons, List.map_cons, PyData.eqvAll, eqvAll_ints as bs, PyData.eqv]
    by_cases h1 : a = b <;> by_cases h2 : as = bs <;> simp [h1, h2]
theorem eqv_ints (a b : List Int) : PyData.eqv (intsD a) (intsD b) = decide (a = b) := by
  rw [intsD, intsD, PyData.eqv, eqvAll_ints]
theorem eqvAll_tab : ∀ a b : List (List Int), PyData.eqvAll (a.map intsD) (b.map intsD) = decide (a = b)
  | [], [] => by simp [PyData.eqvAll]
  | [], b :: bs => by simp [PyData.eqvAll]
  | a :: as, [] => by simp [PyData.eqvAll]
  | a :: as, b :: bs => by
    rw [List.map_cons, List.map_cons, PyData.eqvAll, eqvAll_tab as bs, eqv_ints]
    by_cases h1 : a = b <;> by_cases h2 : as = bs <;> simp [h1, h2]
theorem eqv_tab (a b : List (List Int)) : PyData.eqv (tabD a) (tabD b) = decide (a = b) := by
  rw [tabD, tabD, PyData.eqv, eqvAll_tab]
section
variable {W : Wd} {Γ Γ' : Gam} {K : PySem.W.Frag} {T U A C P : Typ} {Ts Us : List Typ} {ds es : List PyData} {d : PyData} {ta tc : TA} {te tb td : TE} {g : TG} {vs : List Nat} {i j : Int} {r r' : R2} {a b : Bool}
theorem ty_chain {ta tb tc : TE} (h1 : Ty W Γ ta A) (h2 : Ty W Γ tb C) (ho : OpT W r A C (dt K (.bool a))) (h3 : a = true → Ty W Γ tc P) (ho' : OpT W r' C P (dt K (.bool b))) : Ty W Γ (tChain r r' ta tb tc) (dt K (.bool (a && b))) := fun σ H c g Q q =>
  h1 σ H c g _ fun u H1 e1 hu => h2 σ H1 (c.up e1) (g.up e1.toW) _ fun v H2 e2 hv => ho u v H2 (c.up (e1.trans e2)) (A.up e2.toW hu) hv _ fun z H3 e3 hz => by
    have e13 := e1.trans (e2.trans e3)
    cases hz
    refine ⟨a, rfl, ?_⟩
    cases a with
    | true =>
      rw [if_pos rfl]
      exact h3 rfl σ H3 (c.up e13) (g.up e13.toW) _ fun w H4 e4 hw => ho' v w H4 (c.up (e13.trans e4)) (C.up (e3.trans e4).toW hv) hw Q fun z H5 e5 hz => q z H5 (e13.trans (e4.trans e5)) (by rw [Bool.true_and]; exact hz)
    | false =>
      rw [if_neg Bool.false_ne_true]
      exact q _ H3 e13 (.bl _)
theorem opt_ix0 : OpT W (rIx K) (dt K (.tuple (d :: ds))) (dt K (.int 0)) (dt K d) := opt_ixT (i := 0) (atI_nat (j := 0) rfl)
theorem opt_ixTN {n : Nat} (e : ds[n]? = some d) : OpT W (rIx K) (dt K (.tuple ds)) (dt K (.int (n : Nat))) (dt K d) := opt_ixT (atI_nat e)
theorem opt_eqNil (h : ds.all isWholeD = true) : OpT W (rEqA K) (dt K (.tuple ds)) (dt K (.tuple [])) (dt K (.bool (decide (ds.length = 0)))) := by
  have z := opt_eqD (W := W) (K := K) (shaped_whole h) (show SeqAt.shaped (.tuple []) = true from rfl)
  rw [eqv_nil] at z
  exact z
theorem opt_eqT {a b : List (List Int)} : OpT W (rEqA K) (dt K (tabD a)) (dt K (tabD b)) (dt K (.bool (decide (a = b)))) := by
  have z := opt_eqD (W := W) (K := K) (shaped_tab a) (shaped_tab b)
  rw [eqv_tab] at z
  exact z
/-- what is empty is the empty list -/
theorem opt_eqL0 : OpT W (rEqA K) (dt K (.list [])) (dt K (.list [])) (dt K (.bool true)) := (opt_eqD (W := W) (K := K) (d := .list []) (e := .list []) rfl rfl)
end
end Ew

end
section
set_option Elab.async false
set_option linter.all false
set_option maxRecDepth 100000
set_option maxHeartbeats 1000000
/-! EwT: defs that hand back a new list; boxes; lists of unknowns. -/
namespace Ew
open PySem PySem.Spec PyProof.Rows L2
/-- a new list of values of the types Ts x -/
def spL {α : Type} (C : α → Prop) (A : α → List Typ) (Ts : α → List Typ) : Sp := fun vs H Q _ => ∃ (M B : Addr → Prop) (x : α), (∀ a, B a → M a) ∧ (∀ a, B a → BoxAt H a) ∧ (∀ a, M a → H a ≠ none) ∧ C x ∧ TysV M B (A x) vs H ∧
  ∀ p xs H', Ex B H H' → H p = none → H' p = some (.lst xs) → TysV M B (Ts x) xs H' → Q (.ref p) H'
def rL (W : Wd) (Ts : List Typ) : V → Hp → Prop := fun v H => ∃ p xs, v = .ref p ∧ Ex W.B W.H0 H ∧ W.H0 p = none ∧ H p = some (.lst xs) ∧ TysV W.M W.B Ts xs H
section
variable {W : Wd} {Γ : Gam} {tl : TA} {te : TE} {α : Type} {C : α → Prop} {A Ts : α → List Typ} {E : XK}
theorem tyl_call (x : α) (hC : C x) (h : TyA W Γ tl (A x)) : TyL W Γ (tCall (spL C A Ts) [] E tl) (Ts x) := fun σ H c g Q q =>
  h σ H c g _ fun vs H1 e1 hv => ⟨W.M, W.B, x, W.sub, (c.up e1).box, (c.up e1).al, hC, by rw [List.append_nil]; exact hv, fun p xs H2 e2 hp h2 h3 => q p xs H2 (e1.trans e2) (e1.free hp) h2 h3⟩
theorem tys_retL {Us : List Typ} {Bk Ct : Sx → Hp → Prop} (h : TyL W Γ te Us) : TyS W Γ (tRet te) noN (rL W Us) Bk Ct := fun σ H c g D _ dr _ _ => h σ H c g _ fun p xs H1 e hp h1 h2 => dr _ H1 ⟨p, xs, rfl, (c.up e).ex, c.ex.free hp, h1, h2⟩
variable {P : Program} {w : World} {K : PySem.W.Frag} {mg : Str → Option Value} {base : Heap}
theorem fn_tyL {x qual : Str} {st : Stmt} {f : Addr} {fd : FuncData} {N ps : List Str} {k : Nat} (F : Fun K x qual st f fd) (S : FnScope N ps (defScope st))
    (len : ∀ x, C x → (A x).length = ps.length)
    (hbody : ∀ (cdv : Value) (Ar : Around) (outer : List Env) (s : Shared) (H : Hp) (E : XK), Room k (Ar.deeper (envOfC qual (defScope st) s.heap.objs.size f cdv)) →
      ∃ t, PSs (cxOf (L2.CX P w) P w K mg base N qual (defScope st) f cdv Ar outer s H E).nox (defBody st) t ∧ ∀ (W : Wd) (x : α), C x → TyS W ((A x).map some ++ List.replicate (N.length - ps.length) none) t noN (rL W (Ts x)) noN noN) :
    FnOk P w K mg base (L2.CX P w) (k + 1) f fd ps (spL C A Ts) := by
  refine okN F S (fun vs H Q E h => ?_) fun cdv Ar outer s H vs Q E hr h => ?_
  · obtain ⟨M, B, x, _, _, _, hC, h, _⟩ := h
    rw [h.length, len x hC]
  · obtain ⟨M, B, x, hs, hb, ha, hC, h, q⟩ := h
    obtain ⟨t, ht, k⟩ := hbody cdv Ar outer s H E hr
    refine ⟨t, ht, k (Wd.base M B H hs) x hC (L2.start N vs) H ⟨hb, ha, Ex.refl B H, True.intro⟩ ?_ _ (fun σ' H' _ n => n.elim) (fun v H' n => ?_) (fun _ _ _ z => z.elim) (fun _ _ _ z => z.elim)⟩
    · unfold L2.start
      have e : vs.length = ps.length := by rw [h.length, len x hC]
      rw [e]
      exact env_start h _
    · obtain ⟨p, xs, rfl, h1, h2, h3, h4⟩ := n
      exact q p xs H' h1 h2 h3 h4
end
/-! ### a new box -/
/-- the box at p is one more -/
def Wd.bx (W : Wd) (p : Addr) : Wd := ⟨Ew.ad W.M p, fun a => W.B a ∨ a = p, W.H0, fun H => ∃ H1, W.Ω H1 ∧ H1 p = none ∧ Ex (fun a => W.B a ∨ a = p) H1 H, fun a h => h.imp (W.sub a) id, fun e ⟨H1, h1, h2, h3⟩ => ⟨H1, h1, h2, h3.trans e⟩⟩
theorem Ex.less {B : Addr → Prop} {p : Addr} {H H' : Hp} (e : Ex (fun a => B a ∨ a = p) H H') (h : H p = none) : Ex B H H' := fun a o q => (e a o q).imp id fun ⟨b, z⟩ => ⟨b.elim id fun w => absurd h (by rw [← w, q]; exact fun z => nomatch z), z⟩
theorem Ex.more {B : Addr → Prop} {p : Addr} {H H' : Hp} (e : Ex B H H') : Ex (fun a => B a ∨ a = p) H H' := e.sub fun _ h => .inl h
theorem Exm.thru {M B : Addr → Prop} {p : Addr} {H H1 H2 : Hp} (e : Exm M B H H1) (f : Exm (ad M p) (fun a => B a ∨ a = p) H1 H2) (hp : H p = none) : Exm M B H H2 := fun a o h => by
  have ne := ne_of_none h hp
  rcases e a o h with q | ⟨m, ⟨xs, rfl⟩, ⟨ys, q⟩, b⟩
  · rcases f a o q with r | ⟨m, x, y, b⟩
    · exact .inl r
    · exact .inr ⟨m.resolve_right ne, x, y, fun z z2 => b (.inl z) (by obtain ⟨xs, z3, z4⟩ := z2; rw [h] at z3; cases z3; exact ⟨xs, q, z4⟩)⟩
  · rcases f a _ q with r | ⟨_, _, y, b'⟩
    · exact .inr ⟨m, ⟨xs, rfl⟩, ⟨ys, r⟩, fun z1 z2 => by
        obtain ⟨zs, z3, z4⟩ := b z1 z2
        rw [q] at z3; cases z3
        exact ⟨ys, r, z4⟩⟩
    · exact .inr ⟨m, ⟨xs, rfl⟩, y, fun z1 z2 => b' (.inl z1) (b z1 z2)⟩
section
variable {W : Wd} {Γ Γ' : Gam} {te : TE} {tw : TS} {i : Nat} {Ts : List Typ} {T : Typ} {Bk Ct : Sx → Hp → Prop}
/-- box = .., then the rest in the wider world; behind it the slots of Γ' -/
theorem tys_box (h : TyL W Γ te Ts) (hx : ∀ xs H, TysV W.M W.B Ts xs H → BxL xs)
    (hΓ : ∀ p σ H0 H, Exm W.M W.B H0 H → H0 p = none → EnvL W.M W.B Γ σ H0 → EnvL (ad W.M p) (fun a => W.B a ∨ a = p) Γ σ H)
    (hb : ∀ p, ¬ W.M p → TyS (W.bx p) (Γ.set i (some bx)) tw (nE (W.bx p) Γ') (rW (W.bx p) T) noN noN)
    (hn : ∀ p σ H, EnvL (ad W.M p) (fun a => W.B a ∨ a = p) Γ' σ H → EnvL W.M W.B Γ' σ H) (hT : ∀ p v H, T.p (ad W.M p) (fun a => W.B a ∨ a = p) v H → T.p W.M W.B v H) :
    TyS W Γ (tSeq (tAsg te (gName i)) tw) (nE W Γ') (rW W T) Bk Ct := fun σ H c g D dn dr db dc =>
  h σ H c g _ fun p xs H1 e hp h1 h2 => by
    have n0 : W.H0 p = none := c.ex.free hp
    have nm : ¬ W.M p := c.nm hp
    have bx1 : BoxAt H1 p := ⟨xs, h1, hx xs H1 h2⟩
    have c1 := c.up e
    have c2 : Cxt (W.bx p) H1 := ⟨fun a z => z.elim (c1.box a) (fun w => by rw [w]; exact bx1), fun a z => z.elim (c1.al a) (fun w => by rw [w, h1]; intro q; cases q), c1.ex.more, H, c.own, hp, e.more⟩
    have g1 : EnvL (ad W.M p) (fun a => W.B a ∨ a = p) Γ σ H1 := hΓ p σ H H1 e.toW hp g
    have g2 : EnvL (ad W.M p) (fun a => W.B a ∨ a = p) (Γ.set i (some bx)) (σ.set i (some (.ref p))) H1 := EnvL.set (T := bx) ⟨p, rfl, .inr rfl, bx1⟩ g1
    refine hb p nm _ H1 c2 g2 D (fun σ' H' f n => dn σ' H' (e.toW.thru f hp) ⟨?_, hn p σ' H' n.2⟩) (fun v H' n => dr v H' ⟨n.1.less n0, hT p v H' n.2⟩) (fun _ _ _ z => z.elim) (fun _ _ _ z => z.elim)
    refine ⟨fun a z => n.1.box a (.inl z), fun a z => n.1.al a (.inl z), n.1.ex.less n0, ?_⟩
    obtain ⟨H2, o1, o2, o3⟩ := n.1.own
    exact W.kept (o3.less o2) o1
/-! ### values of which just something is known -/
theorem exT_list {α : Type} {A : α → Typ} {M B : Addr → Prop} {H : Hp} : ∀ {n : Nat} {xs : List V}, TysV M B (List.replicate n (exT A)) xs H → ∃ l : List α, l.length = n ∧ TysV M B (l.map A) xs H
  | 0, [], _ => ⟨[], rfl, True.intro⟩
  | n + 1, x :: xs, h => by
    obtain ⟨⟨y, hy⟩, h2⟩ := h
    obtain ⟨l, e, k⟩ := exT_list (n := n) h2
    exact ⟨y :: l, by rw [List.length_cons, e], hy, k⟩
  | 0, _ :: _, h => h.elim
  | n + 1, [], h => h.elim
theorem gd_list {α : Type} {A : α → Typ} {φ : α → Prop} {M B : Addr → Prop} {H : Hp} : ∀ {l : List α} {xs : List V}, TysV M B (l.map fun x => gd (φ x) (A x)) xs H → (∀ x ∈ l, φ x) ∧ TysV M B (l.map A) xs H
  | [], [], _ => ⟨(fun _ z => by cases z), True.intro⟩
  | y :: l, x :: xs, h => by
    obtain ⟨⟨h1, h2⟩, h3⟩ := h
    obtain ⟨k1, k2⟩ := gd_list (l := l) h3
    refine ⟨fun z hz => ?_, h2, k2⟩
    rcases List.mem_cons.mp hz with rfl | hz
    · exact h1
    · exact k1 z hz
  | [], _ :: _, h => h.elim
  | _ :: _, [], h => h.elim
/-- [.. for ..]: n values of one kind -/
theorem TyL.exs {α : Type} {A : α → Typ} {φ : α → Prop} {n : Nat} {K : PySem.W.Frag} (h : TyL W Γ te (List.replicate n (exT fun x : α => gd (φ x) (A x)))) :
    Ty W Γ (tCB (rTupOf K) (tCons te tNil)) (exT fun l : List α => gd (l.length = n ∧ ∀ x ∈ l, φ x) (tupT K (l.map A))) := (ty_tupOf (K := K) h).sub fun v H _ z => by
  obtain ⟨a, xs, h1, h2, h3⟩ := z
  obtain ⟨l, e, k⟩ := exT_list h3
  obtain ⟨k1, k2⟩ := gd_list k
  exact ⟨l, ⟨e, k1⟩, a, xs, h1, h2, k2⟩
theorem Ty.exs {α β : Type} {A : α → Typ} {C : β → Typ} (h : Ty W Γ te (exT A)) (k : ∀ x v H, (A x).at W v H → ∃ y, (C y).at W v H) : Ty W Γ te (exT C) := h.sub fun v H _ ⟨x, z⟩ => k x v H z
theorem Ty.ex {α : Type} {A : α → Typ} (x : α) (h : Ty W Γ te (A x)) : Ty W Γ te (exT A) := h.sub fun v H _ z => ⟨x, z⟩
/-- an operator on an unknown -/
theorem ty_opX {α β : Type} {A : α → Typ} {C : Typ} {P : β → Typ} {r : R2} {ta tb : TE} (ha : Ty W Γ ta (exT A)) (hb : Ty W Γ tb C) (ho : ∀ x, ∃ y, OpT W r (A x) C (P y)) : Ty W Γ (tOp r ta tb) (exT P) := ty_op ha hb fun u v H c ⟨x, hu⟩ hv Q q => by
  obtain ⟨y, k⟩ := ho x
  exact k u v H c hu hv Q fun w H1 e z => q w H1 e ⟨y, z⟩
theorem ty_opY {α β : Type} {A : Typ} {C : α → Typ} {P : β → Typ} {r : R2} {ta tb : TE} (ha : Ty W Γ ta A) (hb : Ty W Γ tb (exT C)) (ho : ∀ x, ∃ y, OpT W r A (C x) (P y)) : Ty W Γ (tOp r ta tb) (exT P) := ty_op ha hb fun u v H c hu ⟨x, hv⟩ Q q => by
  obtain ⟨y, k⟩ := ho x
  exact k u v H c hu hv Q fun w H1 e z => q w H1 e ⟨y, z⟩
end
theorem OpT.gdl {W : Wd} {r : R2} {φ : Prop} {A C P : Typ} (h : φ → OpT W r A C P) : OpT W r (gd φ A) C P := fun u v H c ⟨f, hu⟩ hv Q q => h f u v H c hu hv Q q
theorem OpT.gdr {W : Wd} {r : R2} {φ : Prop} {A C P : Typ} (h : φ → OpT W r A C P) : OpT W r A (gd φ C) P := fun u v H c hu ⟨f, hv⟩ Q q => h f u v H c hu hv Q q
/-- a number below n, of which no more is known -/
def digT (K : PySem.W.Frag) (n : Nat) : Typ := exT fun k : Nat => gd (k < n) (dt K (.int (k : Nat)))
/-- one of these -/
def anyT (Ts : List Typ) : Typ := exT fun n : Nat => gd (n < Ts.length) (Ts.getD n (isV .non))
theorem ty_pick {W : Wd} {Γ : Gam} {K : PySem.W.Frag} {ta tb : TE} {Ts : List Typ} {n : Nat} (ha : Ty W Γ ta (lstT Ts)) (hb : Ty W Γ tb (digT K n)) (hn : n ≤ Ts.length) : Ty W Γ (tOp (rIx K) ta tb) (anyT Ts) := ty_opY ha hb fun k => by
  refine ⟨k, OpT.gdr fun f => ?_⟩
  have hk : k < Ts.length := by omega
  have e : Ts[k]? = some (Ts.getD k (isV .non)) := by rw [List.getD_eq_getElem?_getD, List.getElem?_eq_getElem hk]; rfl
  exact fun u v H c hu hv Q q => opt_ixLT e u v H c hu hv Q fun w H1 e1 z => q w H1 e1 ⟨hk, z⟩
end Ew

end
section
set_option Elab.async false
set_option linter.all false
set_option maxRecDepth 100000
set_option maxHeartbeats 1000000
/-! EwS: readings whose value is known, at a heap that is known. -/
namespace Ew
open PySem PySem.Spec PyProof.Rows L2
/-- te yields v and leaves the heap -/
def Ev (te : TE) (σ : Sx) (H : Hp) (v : V) : Prop := ∀ Q : VK, Q v H → te σ H Q
def EvA (tl : TA) (σ : Sx) (H : Hp) (vs : List V) : Prop := ∀ Q : List V → Hp → Prop, Q vs H → tl σ H Q
section
variable {σ : Sx} {H : Hp} {K : PySem.W.Frag} {te ta tb : TE} {tl : TA} {u v w : V} {vs : List V} {i j : Int} {n : Nat} {p : Addr} {xs : List V} {a b : Bool}
theorem ev_var (h : σ[n]? = some (some v)) : Ev (tVar n) σ H v := fun Q q => ⟨v, h, q⟩
theorem ev_c : Ev (tC v) σ H v := fun Q q => q
theorem ev_op {r : R2} (ha : Ev ta σ H u) (hb : Ev tb σ H v) (hr : ∀ Q : VK, Q w H → r u v H Q) : Ev (tOp r ta tb) σ H w := fun Q q => ha _ (hb _ (hr Q q))
theorem ev_I0 {g : Int → Int → V} (ha : Ev ta σ H (.int i)) (hb : Ev tb σ H (.int j)) : Ev (tOp (rI0 g) ta tb) σ H (g i j) := ev_op ha hb fun Q q => ⟨i, j, rfl, rfl, q⟩
theorem ev_I {D : Int → Int → Prop} {g : Int → Int → V} (hd : D i j) (ha : Ev ta σ H (.int i)) (hb : Ev tb σ H (.int j)) : Ev (tOp (rI D g) ta tb) σ H (g i j) := ev_op ha hb fun Q q => ⟨i, j, rfl, rfl, hd, q⟩
theorem ev_add (ha : Ev ta σ H (.int i)) (hb : Ev tb σ H (.int j)) : Ev (tOp (rAddA K) ta tb) σ H (.int (i + j)) := ev_op ha hb fun Q q => .inl ⟨i, j, rfl, rfl, q⟩
theorem ev_mul (hd : CMul i j) (ha : Ev ta σ H (.int i)) (hb : Ev tb σ H (.int j)) : Ev (tOp rMulA ta tb) σ H (.int (i * j)) := ev_op ha hb fun Q q => .inl ⟨i, j, rfl, rfl, hd, q⟩
theorem ev_div (hd : CDivW i j) (ha : Ev ta σ H (.int i)) (hb : Ev tb σ H (.int j)) : Ev (tOp rDivA ta tb) σ H (.int (i / j)) := ev_op ha hb fun Q q => .inl ⟨i, j, rfl, rfl, hd, q⟩
theorem ev_ix (hH : H p = some (.lst xs)) (e : atI xs i = some w) (ha : Ev ta σ H (.ref p)) (hb : Ev tb σ H (.int i)) : Ev (tOp (rIx K) ta tb) σ H w := ev_op ha hb fun Q q => .inl ⟨p, xs, i, w, rfl, rfl, SqL.of hH, e, q⟩
theorem eva_nil : EvA tNil σ H [] := fun Q q => q
theorem eva_cons (ha : Ev te σ H v) (hr : EvA tl σ H vs) : EvA (tCons te tl) σ H (v :: vs) := fun Q q => ha _ (hr _ q)
theorem ev_int (h : Ev te σ H (.int i)) : Ev (tCB rInt (tCons te tNil)) σ H (.int i) := fun Q q => h _ (.inl ⟨i, rfl, q⟩)
theorem Ev.tt {Q : Bool → Hp → Prop} (h : Ev te σ H (.bl a)) (q : Q a H) : tTest te σ H Q := h _ ⟨a, rfl, q⟩
theorem Ev.tbl {Q : Bool → Hp → Prop} (h : Ev te σ H (.bl a)) (q : Q a H) : tB te σ H Q := h _ ⟨a, rfl, q⟩
/-- x[j] = e, x a list -/
theorem ev_put {D : Ends} {tj : TE} {k : Nat} (he : Ev te σ H v) (hx : Ev ta σ H (.ref p)) (hj : Ev tj σ H (.int i)) (hH : H p = some (.lst xs)) (hk : ixN xs.length i = some k) (q : D.nx σ (upd H p (.lst (xs.set k v)))) : tAsg te (gSub ta tj rSetL) D σ H :=
  he _ (hx _ (hj _ ⟨p, xs, i, k, rfl, rfl, hH, hk, q⟩))
end
end Ew

end
section
set_option Elab.async false
set_option linter.all false
set_option maxRecDepth 100000
set_option maxHeartbeats 2000000
/-! EwQ: enumerate of a tuple (turned from the worked proofs for a list). -/
namespace PySem
open Sem (wp)
open AutoSeq1 (wpAny_loadPart')
theorem meets_enumerate_newT (l : Addr) (items : Array Value) (n : Nat) (dct : Option Addr) (sl : Array (Option Value)) :
    Meets (Builtin.«enumerate.__new__» ⟨[.type "enumerate", .ref l], []⟩) (fun _ R s => s.heap.get? l = some { cls := .type "tuple", dict := dct, data := .seq items n, slots := sl } ∧
      R (.ok (.ret (.ref (s.heap.push { cls := .type "tuple_iterator", data := .fields #[.ref l, .int 0 0] }).objs.size)))
        { s with heap := (s.heap.push { cls := .type "tuple_iterator", data := .fields #[.ref l, .int 0 0] }).push { cls := .type "enumerate", data := .fields #[.none, .bool false, .ref s.heap.objs.size, rawInt 0, .none, .none] } }) :=
  .of_wp fun prog w A R s h => by
    obtain ⟨hp, g, d, tk, os⟩ := s; obtain ⟨hl, h⟩ := h
    have hsub := sub_enumerate
    have hL : Heap.IsTuple (Shared.heap ⟨hp, g, d, tk, os⟩) l items := ⟨_, hl, rfl, n, rfl⟩
    wp_walk using wpAny_loadPart' hl
    refine wpAny_stack_any fun st => wpAny_pure ?_
    split
    · rename_i c _ _ _ _ _
      cases (c == Value.type "enumerate")
      · wp_walk using wpAny_loadPart' hl, wpAny_pyIter_tuple hL
        exact ⟨_, rfl, h⟩
      · wp_walk using wpAny_loadPart' hl, wpAny_pyIter_tuple hL
        exact ⟨_, rfl, h⟩
    · wp_walk using wpAny_loadPart' hl, wpAny_pyIter_tuple hL
      exact ⟨_, rfl, h⟩

section
variable {prog : Program} {w : World} {A : Around} {E : Value → Shared → Prop} {s : Shared}
theorem enumerate_next_itemT {e it l : Addr} {i : Nat} {items : Array Value} {x old : Value} {Q : Value → Shared → Prop}
    (he : IsEnum s.heap e it i old) (hit : s.heap.IsTupleIter it l i) (hl : s.heap.IsTuple l items) (hx : items[i]? = some x) (hne : e ≠ it)
    (hQ : ∀ h', IsEnumOut h' e it ((i : Int) + 1) x s.heap.objs.size → h'.IsTupleIter it l (i + 1) →
      h'.get? s.heap.objs.size = some { cls := .type "tuple", data := .seq #[.int i s.toks, x] } → h'.objs.size = s.heap.objs.size + 1 →
      (∀ b o, b ≠ e → b ≠ it → s.heap.get? b = some o → h'.get? b = some o) → Q (.ref s.heap.objs.size) { s with heap := h', toks := s.toks + 1 }) :
    wpAny (model prog w) A (Builtin.«enumerate.__next__» ⟨[.ref e], []⟩) (fun fin s' => ∃ v, fin = .done (.ret v) ∧ Q v s') E s := by
  obtain ⟨hp, g, d, tk, os⟩ := s
  show wpAny _ _ (field (.ref e) 2 >>= _) _ _ _
  refine wpAny_bind (wpAny_field he rfl (x := .ref it) rfl ?_)
  refine wpAny_bind (RZ.nextOf_tuple_item hit hl hx fun h₁ hit₁ hs₁ => ?_)
  replace hs₁ : Heap.SameBut it hp h₁ := hs₁
  have he₁ : IsEnum h₁ e it i old := (hs₁.2 e hne).trans he
  show wpAny _ _ (field (.ref e) 3 >>= _) _ _ ⟨h₁, g, d, tk, os⟩
  refine wpAny_bind (wpAny_field he₁ rfl (x := rawInt i) rfl ?_)
  show wpAny _ _ (field (.ref e) 4 >>= _) _ _ ⟨h₁, g, d, tk, os⟩
  refine wpAny_bind (wpAny_field he₁ rfl (x := .none) rfl ?_)
  show wpAny _ _ (mkInt i >>= _) _ _ ⟨h₁, g, d, tk, os⟩
  refine wpAny_bind (wpAny_mkInt ?_)
  show wpAny _ _ (setField (.ref e) 3 (rawInt ((i : Int) + 1)) >>= _) _ _ ⟨h₁, g, d, tk + 1, os⟩
  refine wpAny_bind (wpAny_setField_rec he₁ (by simp) fun h₂ he₂ hs₂ => ?_)
  replace hs₂ : Heap.SameBut e h₁ h₂ := hs₂
  replace he₂ : IsEnum h₂ e it ((i : Int) + 1) old := he₂
  show wpAny _ _ (setField (.ref e) 4 .none >>= _) _ _ ⟨h₂, g, d, tk + 1, os⟩
  refine wpAny_bind (wpAny_setField_rec he₂ (by simp) fun h₃ he₃ hs₃ => ?_)
  replace hs₃ : Heap.SameBut e h₂ h₃ := hs₃
  replace he₃ : IsEnum h₃ e it ((i : Int) + 1) old := he₃
  show wpAny _ _ (newTuple [.int i tk, x] >>= _) _ _ ⟨h₃, g, d, tk + 1, os⟩
  refine wpAny_bind (wpAny_newTuple ?_)
  have he₄ : IsEnum (h₃.push { cls := .type "tuple", data := .seq #[.int i tk, x] }) e it ((i : Int) + 1) old := Heap.get?_push_of_some _ he₃
  generalize hh₄ : h₃.push { cls := .type "tuple", data := .seq #[.int i tk, x] } = h₄ at he₄
  have hsz : h₃.objs.size = hp.objs.size := by rw [hs₃.1, hs₂.1, hs₁.1]
  have hel : e < hp.objs.size := Heap.lt_size he
  have ht₄ : h₄.get? hp.objs.size = some { cls := .type "tuple", data := .seq #[.int i tk, x] } := by rw [← hh₄, ← hsz]; exact Heap.get?_push_size _ rfl
  have hz₄ : h₄.objs.size = hp.objs.size + 1 := by rw [← hh₄, Heap.size_push, hsz]
  have hk₄ : ∀ b o, b ≠ e → b ≠ it → hp.get? b = some o → h₄.get? b = some o := fun b o hbe hbi hb => by
    rw [← hh₄]; exact Heap.get?_push_of_some _ (hs₃.extBut b o hbe (hs₂.extBut b o hbe (hs₁.extBut b o hbi hb)))
  have hit₄ : h₄.IsTupleIter it l (i + 1) := by
    rw [← hh₄]; obtain ⟨o, ho, r⟩ := (hit₁.extBut hs₂.extBut (Ne.symm hne)).extBut hs₃.extBut (Ne.symm hne); exact ⟨o, Heap.get?_push_of_some _ ho, r⟩
  show wpAny _ _ (Builtin.SmallTypes.ownedTupleIsFree (.ref e) >>= _) _ _ ⟨h₄, g, d, tk + 1, os⟩
  rw [hsz]
  clear hh₄ he₃ hs₃ he₂ hs₂ he₁ hs₁ hit₁ hsz h₃ h₂ h₁
  refine wpAny_bind ?_
  · unfold Builtin.SmallTypes.ownedTupleIsFree
    refine wpAny_bind (wpAny_field he₄ rfl (x := .none) rfl (wpAny_pure ?_))
    simp only [if_true]
    refine wpAny_bind (wpAny_rule ?_)
    refine wpAny_bind (wpAny_field he₄ rfl (x := old) rfl ?_)
    refine wpAny_bind (wpAny_setField_rec he₄ (by simp) fun h₅ he₅ hs₅ => ?_)
    replace hs₅ : Heap.SameBut e h₄ h₅ := hs₅
    replace he₅ : IsEnum h₅ e it ((i : Int) + 1) x := he₅
    show wpAny _ _ (Builtin.SmallTypes.ownedTupleHandOut (.ref e) (.ref hp.objs.size) >>= _) _ _ ⟨h₅, g, d, tk + 1, os⟩
    refine wpAny_bind ?_
    · unfold Builtin.SmallTypes.ownedTupleHandOut
      refine wpAny_bind (wpAny_setField_rec he₅ (by simp) fun h₆ he₆ hs₆ => ?_)
      replace hs₆ : Heap.SameBut e h₅ h₆ := hs₆
      replace he₆ : IsEnumOut h₆ e it ((i : Int) + 1) x hp.objs.size := he₆
      refine wpAny_setField_rec he₆ (by simp) fun h₇ he₇ hs₇ => ?_
      replace hs₇ : Heap.SameBut e h₆ h₇ := hs₇
      replace he₇ : IsEnumOut h₇ e it ((i : Int) + 1) x hp.objs.size := he₇
      refine wpAny_bind (wpAny_letGo (wpAny_pure ⟨_, rfl, hQ h₇ he₇ ?_ ?_ ?_ ?_⟩))
      · exact ((hit₄.extBut hs₅.extBut (Ne.symm hne)).extBut hs₆.extBut (Ne.symm hne)).extBut hs₇.extBut (Ne.symm hne)
      · exact hs₇.extBut _ _ (Nat.ne_of_gt hel) (hs₆.extBut _ _ (Nat.ne_of_gt hel) (hs₅.extBut _ _ (Nat.ne_of_gt hel) ht₄))
      · rw [hs₇.1, hs₆.1, hs₅.1, hz₄]
      · exact fun b o hbe hbi hb => hs₇.extBut b o hbe (hs₆.extBut b o hbe (hs₅.extBut b o hbe (hk₄ b o hbe hbi hb)))

theorem wpAny_pyNext_enum_itemT {e it l : Addr} {i : Nat} {items : Array Value} {x old : Value} {Q : Option Value → Shared → Prop}
    (he : IsEnum s.heap e it i old) (hit : s.heap.IsTupleIter it l i) (hl : s.heap.IsTuple l items) (hx : items[i]? = some x) (hne : e ≠ it)
    (hQ : ∀ h', IsEnumOut h' e it ((i : Int) + 1) x s.heap.objs.size → h'.IsTupleIter it l (i + 1) →
      h'.get? s.heap.objs.size = some { cls := .type "tuple", data := .seq #[.int i s.toks, x] } → h'.objs.size = s.heap.objs.size + 1 →
      (∀ b o, b ≠ e → b ≠ it → s.heap.get? b = some o → h'.get? b = some o) → Q (some (.ref s.heap.objs.size)) { s with heap := h', toks := s.toks + 1 }) :
    wpAny (model prog w) A (pyNext (.ref e)) Q E s := by
  have hT : s.TypeIs (.ref e) "enumerate" := ⟨_, he, rfl⟩
  unfold pyNext
  exact wpAny_bind (wpAny_attempt (wpAny_callSpecial?_slot (name := Str.ofString "__next__") hT F.slot_enumerate_next
    (wpAny_call_entry F.slot_enumerate_next hT F.entry_enumerate_next
      (enumerate_next_itemT he hit hl hx hne fun h' a b c d k => wpAny_pure (hQ h' a b c d k)) (F.args_enumerate_next_1 _))))

theorem wpAny_pyNext_enum_endT {e it l : Addr} {i : Nat} {items : Array Value} {old : Value} {Q : Option Value → Shared → Prop} (hh : A.handled = none)
    (he : IsEnum s.heap e it i old) (hit : s.heap.IsTupleIter it l i) (hl : s.heap.IsTuple l items) (hx : items[i]? = none)
    (hQ : ∀ h', Heap.ExtBut it s.heap h' → Q none { s with heap := h' }) : wpAny (model prog w) A (pyNext (.ref e)) Q E s := by
  have hT : s.TypeIs (.ref e) "enumerate" := ⟨_, he, rfl⟩
  unfold pyNext
  refine wpAny_bind (wpAny_attempt (wpAny_callSpecial?_slot (name := Str.ofString "__next__") hT F.slot_enumerate_next
    (wpAny_call_entry F.slot_enumerate_next hT F.entry_enumerate_next ?_ (F.args_enumerate_next_1 _))))
  show wpAny _ _ (field (.ref e) 2 >>= _) _ _ _
  refine wpAny_bind (wpAny_field he rfl (x := .ref it) rfl ?_)
  refine wpAny_bind (RZ.nextOf_tuple_end hh hit hl hx fun h' x he' hx' => ?_)
  obtain ⟨o, ho, hc⟩ := hx'
  refine wpAny_bind (wpAny_isInstance (T := "StopIteration") (b := true) ⟨o, ho, hc⟩ isSubtype_stop ?_)
  exact wpAny_pure (hQ _ he')
theorem call_enumerate_tuple {l : Addr} {items : Array Value} {Q : Value → Shared → Prop} (hL : s.heap.IsTuple l items)
    (h : ∀ h', IsEnum h' (s.heap.objs.size + 1) s.heap.objs.size 0 .none → h'.IsTupleIter s.heap.objs.size l 0 → h'.objs.size = s.heap.objs.size + 2 →
      (∀ b o, s.heap.get? b = some o → h'.get? b = some o) → Q (.ref (s.heap.objs.size + 1)) { s with heap := h' }) :
    wpAny (model prog w) A (call (.type "enumerate") [.ref l]) Q E s := by
  obtain ⟨⟨c, dct, dt, sl⟩, hl, hc, n, hd⟩ := hL
  replace hc : c = .type "tuple" := hc
  replace hd : dt = .seq items n := hd
  subst hc hd
  refine callType_new F.called_enumerate (by decide) (F.typeCall_enumerate_1 _) (F.newCall_enumerate_1 _) (fun obj => F.args_object_init_2 obj _) F.entry_enumerate_new
    (meets_enumerate_newT l items n dct sl) ⟨hl, ?_⟩
  have hz : (s.heap.push { cls := .type "tuple_iterator", data := .fields #[.ref l, .int 0 0] }).objs.size = s.heap.objs.size + 1 := Heap.size_push ..
  show _ ∧ _
  rw [hz]
  have he : IsEnum ((s.heap.push { cls := .type "tuple_iterator", data := .fields #[.ref l, .int 0 0] }).push
      { cls := .type "enumerate", data := .fields #[.none, .bool false, .ref s.heap.objs.size, rawInt 0, .none, .none] }) (s.heap.objs.size + 1) s.heap.objs.size 0 .none := by
    have := Heap.get?_push_size (s.heap.push { cls := .type "tuple_iterator", data := .fields #[.ref l, .int 0 0] })
      (o := { cls := .type "enumerate", data := .fields #[.none, .bool false, .ref s.heap.objs.size, rawInt 0, .none, .none] }) rfl
    rw [hz] at this; exact this
  refine ⟨⟨_, he, rfl⟩, h _ he ⟨_, Heap.get?_push_of_some _ (Heap.get?_push_size _ rfl), rfl, rfl⟩ (by rw [Heap.size_push, hz]) fun b o x => Heap.get?_push_of_some _ (Heap.get?_push_of_some _ x)⟩

end
end PySem
namespace L2
open PySem PySem.Spec PyProof.Rows
/-- the tuple at a as it stands at each turn, each item in a new pair -/
def IteT (K : PySem.W.Frag) (a : Addr) : It :=
  ⟨fun i H => ∃ (xs : List V) (x : V), SqT K H a xs ∧ xs[i]? = some x, fun i H v H' => ∃ T x, v = .ref T ∧ H T = none ∧ H' = upd H T (.tup [.int (i : Nat), x]) ∧ ∀ xs, SqT K H a xs → xs[i]? = some x, fun i H => ∃ xs : List V, SqT K H a xs ∧ xs.length ≤ i⟩
theorem turn_enumT {P : Program} {w : World} {K : PySem.W.Frag} {elts : List Expr} {kk : Nat} {tpos : Pos} (a e it : Addr) :
    Turn P w K (.Tuple elts kk tpos) (IteT K a) [e, it] e (fun i h => (∃ old, IsEnum h e it ((i : Nat) : Int) old) ∧ h.IsTupleIter it a i ∧ e ≠ it) where
  mem := by simp
  obj := fun i h st b hb => by
    obtain ⟨⟨old, he⟩, ⟨o, ho, hc, hd⟩, _⟩ := st
    have e' : b = e ∨ b = it := by simpa using hb
    rcases e' with z | z
    · rw [z]; exact ⟨_, he, fun v q => nomatch q⟩
    · rw [z]; exact ⟨o, ho, fun v q => by rw [hd] at q; cases q⟩
  keep := fun i h h' st k => let ⟨⟨old, he⟩, hi, hne⟩ := st; ⟨⟨old, k e (by simp) _ he⟩, hi.at fun o q => k it (by simp) o q, hne⟩
  item := by
    intro X hP hw hK hc i pins s σ H E I hf st hg
    subst hP hw hK
    obtain ⟨⟨old, he⟩, hit, hne⟩ := st
    obtain ⟨xs, x, hq, hx⟩ := hg
    obtain ⟨its, rv, p, hz⟩ := I.tuple hq
    obtain ⟨u, hu, ru⟩ := rv.get hx
    have hel : e < s.heap.objs.size := Heap.lt_size he
    have hil : it < s.heap.objs.size := by obtain ⟨_, q, _⟩ := hit; exact Heap.lt_size q
    refine wpAny_pyNext_enum_itemT he hit p (x := u) (by simpa using hu) hne fun h' ho hit' hT hsz hk => ?_
    refine ⟨_, rfl, wpAny_letOwnedTupleGo_enum (s := { s with heap := h', toks := s.toks + 1 }) ho fun h'' he' sb => ?_⟩
    have hT2 : h''.get? s.heap.objs.size = some { cls := .type "tuple", data := .seq #[.int i s.toks, u] } := (sb.2 _ (Nat.ne_of_gt hel)).trans hT
    have new : ObjOk X.prog X.w (upd H s.heap.objs.size (.tup [.int (i : Nat), x])) h'' s.heap.objs.size (.tup [.int (i : Nat), x]) :=
      ⟨by show 2 ≤ sizeLine; decide, [.int i s.toks, u], .cons ⟨_, rfl⟩ (.cons ru .nil), ⟨_, hT2, rfl, _, rfl⟩⟩
    have I1 : Inv X pins σ (upd H s.heap.objs.size (.tup [.int (i : Nat), x])) { s with heap := h'', toks := s.toks + 1 } :=
      I.turnedNew (ch := [e, it]) (fun b ob hb q => (sb.2 b (fun z => hb (by simp [z]))).trans (hk b ob (fun z => hb (by simp [z])) (fun z => hb (by simp [z])) q)) hf (Nat.le_refl _) new
    refine ⟨.ref s.heap.objs.size, _, I1, rfl, ⟨_, x, rfl, I.hok.fresh (Nat.le_refl _), rfl, fun ys hy => by rw [I.tuple_inj hy hq]; exact hx⟩, ⟨⟨u, ?_⟩, hit'.at fun o q => (sb.2 it (Ne.symm hne)).trans q, hne⟩, fun b hb => ?_⟩
    · have e1 : ((i + 1 : Nat) : Int) = (i : Int) + 1 := by omega
      rw [e1]; exact he'
    · have hb' : b < s.heap.objs.size := by
        have e' : b = e ∨ b = it := by simpa using hb
        rcases e' with z | z
        · rw [z]; exact hel
        · rw [z]; exact hil
      rw [upd_ne (Nat.ne_of_lt hb')]
      exact (hf b hb).1
  done := by
    intro X hP hw hK hc i pins s σ H E I hf st hg
    subst hP hw hK
    obtain ⟨⟨old, he⟩, hit, hne⟩ := st
    obtain ⟨xs, hq, hx⟩ := hg
    obtain ⟨its, rv, p, hz⟩ := I.tuple hq
    obtain ⟨f0, f1, f2, f3, f4, f5⟩ := hf it (by simp)
    have hl := rv.length
    exact wpAny_pyNext_enum_endT (I.ok.hd hc) he hit p (by simp; omega) fun h' eb => ⟨rfl, I.turned (t' := s.toks) (fun b o hb q => eb b o hb q) f0 f1 f3 f4 f5⟩
  self := fun A i s Q E st h => let ⟨⟨_, he⟩, _⟩ := st; wpAny_pyIter_enum he h
def iEnumT (K : PySem.W.Frag) (ta : TA) : TI := fun σ H R => ta σ H fun vs H1 => ∃ a xs, vs = [.ref a] ∧ SqT K H1 a xs ∧ R (IteT K a) H1
theorem pi_enumT {X : Cx} {e : Expr} {ta : TA} {p pos tpos : Pos} {elts : List Expr} {kk : Nat} (hg : Gl X "enumerate") (hm : X.mg "enumerate" = none) (ha : PA X [e] ta) (hs : starEach [e] X.env = [(false, eval e X.env)] := by rfl) :
    PI X (.Tuple elts kk tpos) (.Call (.Name "enumerate" p) [e] [] pos) (iEnumT X.K ta) := by
  refine ⟨fun pins s σ H R I h => ?_⟩
  refine Call_ (ld_blt I hg hm boot_enumerate (PyProof.Rows.callWith_type1 (thn (ha.run pos pins s σ H _ I h) fun us s1 ⟨vs, H1, I1, r1, q1⟩ => ?_) hs rfl))
  obtain ⟨a, xs, ex, hq, q⟩ := q1
  subst ex
  cases r1 with
  | cons r rr =>
    cases rr
    cases r
    obtain ⟨its, rv, p', hz⟩ := I1.tuple hq
    refine call_enumerate_tuple p' fun h' he hit hsz hk => wpAny_pyIter_enum he ?_
    have I2 : Inv X pins σ H1 { s1 with heap := h' } := I1.kept (t' := s1.toks) hk
    refine ⟨s1.heap.objs.size + 1, [s1.heap.objs.size + 1, s1.heap.objs.size], _, _, H1, rfl, I2, turn_enumT a (s1.heap.objs.size + 1) s1.heap.objs.size, ⟨⟨.none, he⟩, hit, Nat.succ_ne_self _⟩, fun b hb => ?_, q⟩
    have e' : b = s1.heap.objs.size + 1 ∨ b = s1.heap.objs.size := by simpa using hb
    have hle : s1.heap.objs.size ≤ b := by
      rcases e' with z | z
      · rw [z]; exact Nat.le_add_right _ _
      · rw [z]; exact Nat.le_refl _
    exact I1.fpOk hle (I1.hok.fresh hle)
end L2

end
section
set_option Elab.async false
set_option linter.all false
set_option maxRecDepth 100000
set_option maxHeartbeats 2000000
/-! EwR: slices, tuple times one, enumerate of tuples, several names at once. -/
namespace L2
open PySem PySem.Spec PyProof.Rows
theorem tuple_mulOne (l : Addr) (items : Array Value) (n : Nat) (u : Tok) :
    Meets (Builtin.«tuple.__mul__» ⟨[.ref l, .int 1 u], []⟩) (fun _ R s => (∃ dd sl, s.heap.get? l = some { cls := .type "tuple", dict := dd, data := .seq items n, slots := sl }) ∧ R (.ok (.ret (.ref l))) s) :=
  .of_wp fun prog w A R s h => by
    obtain ⟨hp, g, d, tk, os⟩ := s
    obtain ⟨⟨dd, sl, hl⟩, h⟩ := h
    have f1 := AutoSeq1.idx_int
    have c0 : (decide ((1 : Int) < -(2 ^ 63)) || decide ((1 : Int) ≥ 2 ^ 63)) = false := by decide
    have c1 : (items.isEmpty || (1 : Int) == 1) = true := by rw [Bool.or_eq_true]; exact .inr rfl
    wp_walk using wpAny_loadPart' hl
    repeat (first
      | (refine wpAny_ite_false (decide_eq_false (by rw [c0]; exact Bool.false_ne_true)) ?_; wp_walk using wpAny_loadPart' hl)
      | (refine wpAny_ite_true (decide_eq_true c1) ?_; wp_walk using wpAny_loadPart' hl))
    all_goals exact ⟨_, rfl, h⟩
def rRepT1 (K : PySem.W.Frag) : R2 := fun x y H Q => ∃ l xs, x = .ref l ∧ y = .int 1 ∧ SqT K H l xs ∧ Q x H
section
variable {X : Cx}
theorem op_repT1 : OpR X (binaryOp .Mult) (rRepT1 X.K) := by
  intro pins s σ H x y v u Q I rx ry h
  obtain ⟨l, xs, rfl, rfl, hT, q⟩ := h
  cases rx
  obtain ⟨t, rfl⟩ := ry
  obtain ⟨its, r, ⟨⟨cls, dd, data, sl⟩, ho, hc, n, hd⟩, hs⟩ := I.tuple hT
  simp only at hc hd
  subst hc hd
  exact wpAny_binaryOp_repeat_ref (T := "tuple") (U := "int") (by decide) ⟨_, ho, rfl⟩ (fun s' => typeIs_int s' 1 t) noFill_tuple_mul F.fills_int_mul F.slot_int_rmul repeat_tuple F.slot_int_index.lookup
    (call_meets F.slot_int_rmul (typeIs_int s 1 t) F.entry_int_rmul (F.args_int_rmul_2 _ _) (int_rmul_tuple 1 t l its.toArray n dd sl)
      ⟨ho, rfl, ⟨_, ho, rfl⟩, call_meets F.slot_tuple_mul ⟨_, ho, rfl⟩ F.entry_tuple_mul (F.args_tuple_mul_2 _ _) (tuple_mulOne l its.toArray n t) ⟨⟨dd, sl, ho⟩, ⟨.ref l, H, I, rfl, q⟩⟩⟩)
def rRepA (K : PySem.W.Frag) : R2 := fun x y H Q => rRepT K x y H Q ∨ rRepT1 K x y H Q
theorem k_repA {K : PySem.W.Frag} (hK : X.K = K) : OpR X (binaryOp .Mult) (rRepA K) := hK ▸ op_repT.or op_repT1
/-- x[a:b], a list, a tuple, a text -/
def rSlAll (K : PySem.W.Frag) : V → Option Int → Option Int → Hp → VK → Prop := fun x lo hi H Q => rSlL K x lo hi H Q ∨ (fun x lo hi H Q => rSlA K x lo hi H Q ∨ rSlS x lo hi H Q) x lo hi H Q
theorem k_sl {K : PySem.W.Frag} (hK : X.K = K) : SlR X (rSlAll K) := hK ▸ sl_list.or (sl_tupA.or sl_str)
theorem k_ienumT {K : PySem.W.Frag} (hK : X.K = K) {e : Expr} {t : TA} {p pos tpos : Pos} {elts : List Expr} {kk : Nat} (hm : X.mg "enumerate" = none) (ha : PA X [e] t) (hg : Gl X "enumerate" := by rfl) (hs : starEach [e] X.env = [(false, eval e X.env)] := by rfl) :
    PI X (.Tuple elts kk tpos) (.Call (.Name "enumerate" p) [e] [] pos) (iEnumT K t) := hK ▸ pi_enumT hg hm ha hs
end
end L2
namespace Ew
open PySem PySem.Spec PyProof.Rows L2
def cutD {α : Type} (xs : List α) (lo hi : Option Int) : List α := (xs.drop (HT.sIx xs.length 0 lo)).take (HT.sIx xs.length xs.length hi - HT.sIx xs.length 0 lo)
section
variable {W : Wd} {Γ Γ' : Gam} {K : PySem.W.Frag} {T U A C P : Typ} {Ts Us : List Typ} {ds es : List PyData} {d : PyData} {ta : TA} {te tb : TE} {i j : Int} {N : Sx → Hp → Prop} {R : V → Hp → Prop} {Bk Ct : Sx → Hp → Prop} {tl th : TO} {lo hi : Option Int} {n m k : Nat}
def TyO (W : Wd) (Γ : Gam) (t : TO) (o : Option Int) : Prop := ∀ σ H, Cxt W H → EnvW W Γ σ H → ∀ Q : Option Int → Hp → Prop, (∀ H1, Ex W.B H H1 → Q o H1) → t σ H Q
theorem tyo_none : TyO W Γ tNoPart none := fun σ H c g Q q => q H (Ex.refl _ _)
theorem tyo_some (h : Ty W Γ te (dt K (.int i))) : TyO W Γ (tPart te) (some i) := fun σ H c g Q q => h σ H c g _ fun v H1 e hv => by
  cases hv
  exact ⟨i, rfl, q H1 e⟩
theorem RpA.drop' {M : Addr → Prop} {H : Hp} : ∀ {vs : List V} {ds : List PyData} (n : Nat), RpA M K H vs ds → RpA M K H (vs.drop n) (ds.drop n)
  | _, _, 0, h => h
  | _, _, _ + 1, .nil => .nil
  | _, _, n + 1, .cons _ r => RpA.drop' n r
theorem RpA.take' {M : Addr → Prop} {H : Hp} : ∀ {vs : List V} {ds : List PyData} (n : Nat), RpA M K H vs ds → RpA M K H (vs.take n) (ds.take n)
  | _, _, 0, _ => .nil
  | _, _, _ + 1, .nil => .nil
  | _, _, n + 1, .cons h r => .cons h (RpA.take' n r)
theorem RpA.cut {M : Addr → Prop} {H : Hp} {vs : List V} {ds : List PyData} (h : RpA M K H vs ds) (lo hi : Option Int) : RpA M K H (cutV vs lo hi) (cutD ds lo hi) := by
  unfold cutV cutD
  rw [h.length]
  exact (h.drop' _).take' _
theorem cut_whole {α : Type} {xs : List α} (h : HT.sIx xs.length 0 lo = 0 ∧ HT.sIx xs.length xs.length hi = xs.length) : cutD xs lo hi = xs := by
  unfold cutD
  rw [h.1, h.2, List.drop_zero, Nat.sub_zero, List.take_length]
theorem ty_slL (h : Ty W Γ te (dt K (.list ds))) (hl : TyO W Γ tl lo) (hh : TyO W Γ th hi) : Ty W Γ (tSl (rSlAll K) te tl th) (dt K (.list (cutD ds lo hi))) := fun σ H c g Q q =>
  h σ H c g _ fun v H1 e1 hv => hl σ H1 (c.up e1) (g.up e1.toW) _ fun H2 e2 => hh σ H2 (c.up (e1.trans e2)) (g.up (e1.trans e2).toW) _ fun H3 e3 => by
    have hv3 := Rp.up (e2.trans e3).toW hv
    cases hv3 with
    | lst h1 h2 h3 => exact .inl ⟨_, _, rfl, SqL.of h1, fun p hp => q _ _ ((e1.trans (e2.trans e3)).trans (Ex.new hp)) (.lst upd_same (c.nm ((e1.trans (e2.trans e3)).free hp)) (RpA.up (Ex.new (B := W.B) hp).toW (h3.cut lo hi)))⟩
theorem ty_slT (h : Ty W Γ te (dt K (.tuple ds))) (hl : TyO W Γ tl lo) (hh : TyO W Γ th hi) : Ty W Γ (tSl (rSlAll K) te tl th) (dt K (.tuple (cutD ds lo hi))) := fun σ H c g Q q =>
  h σ H c g _ fun v H1 e1 hv => hl σ H1 (c.up e1) (g.up e1.toW) _ fun H2 e2 => hh σ H2 (c.up (e1.trans e2)) (g.up (e1.trans e2).toW) _ fun H3 e3 => by
    have hv3 := Rp.up (e2.trans e3).toW hv
    have e13 := e1.trans (e2.trans e3)
    cases hv3 with
    | @tup a xs _ h1 h3 =>
      refine .inr (.inl ⟨_, _, rfl, h1, fun w => q _ _ e13 ?_, fun _ p hp => q _ _ (e13.trans (Ex.new hp)) (.tup (SqT.of upd_same) (RpA.up (Ex.new (B := W.B) hp).toW (h3.cut lo hi)))⟩)
      rw [h3.length] at w
      rw [cut_whole w]
      exact .tup h1 h3
theorem ty_slS {z : Str} (hz : z.length ≤ 1000000) (h : Ty W Γ te (dt K (.str z))) (hl : TyO W Γ tl lo) (hh : TyO W Γ th hi) : Ty W Γ (tSl (rSlAll K) te tl th) (dt K (.str (cutS z lo hi))) := fun σ H c g Q q =>
  h σ H c g _ fun v H1 e1 hv => hl σ H1 (c.up e1) (g.up e1.toW) _ fun H2 e2 => hh σ H2 (c.up (e1.trans e2)) (g.up (e1.trans e2).toW) _ fun H3 e3 => by
    have hv3 := Rp.up (e2.trans e3).toW hv
    have e13 := e1.trans (e2.trans e3)
    cases hv3 with
    | str => exact .inr (.inr ⟨z, rfl, sz_le hz, q _ _ e13 (.str _)⟩)
theorem opt_ixS {z : Str} {c : Nat} (hz : z.length ≤ 1000000) (e : atI z.cps.toList i = some c) : OpT W (rIx K) (dt K (.str z)) (dt K (.int i)) (dt K (.str ⟨#[c]⟩)) := fun u v H cx hu hv Q q => by
  cases hu
  cases hv
  exact .inr (.inr ⟨z, i, c, rfl, rfl, sz_le hz, e, q _ H (Ex.refl _ _) (.str _)⟩)
/-- tuple * int -/
theorem opt_repA (h0 : 1 ≤ j) (h1 : j ≤ 1000) (hn : ds ≠ []) (hz : ds.length ≤ 1000) : OpT W (rRepA K) (dt K (.tuple ds)) (dt K (.int j)) (dt K (.tuple (List.replicate j.toNat ds).flatten)) := fun u v H c hu hv Q q => by
  by_cases e : j = 1
  · subst e
    cases hv
    cases hu with
    | @tup a xs _ h2 h3 =>
      refine .inr ⟨a, xs, rfl, rfl, h2, q _ H (Ex.refl _ _) ?_⟩
      have e2 : (List.replicate (1 : Int).toNat ds).flatten = ds := by
        show (List.replicate 1 ds).flatten = ds
        simp
      rw [e2]
      exact .tup h2 h3
  · exact .inl (opt_repT (by omega) h1 hn hz u v H c hu hv Q q)
/-! ### enumerate of a tuple -/
theorem walk_enumT {a : Addr} {xs : List V} : Walk (IteT K a) xs.length (fun H => SqT K H a xs) (YPair (fun i => some (.int (i : Nat))) (fun i => xs[i]?)) := by
  refine ⟨fun i _ hi q => ⟨xs, xs[i], q, by simp⟩, fun _ q => ⟨xs, q, Nat.le_refl _⟩, fun i H v H' _ q y => ?_⟩
  obtain ⟨T, x, h1, h2, h3, h4⟩ := y
  exact ⟨T, _, x, h1, h2, h3, rfl, h4 xs q⟩
theorem tyi_enumT (h : TyA W Γ ta [tupT K Ts]) : TyI W Γ (iEnumT K ta) ((List.range Ts.length).map fun i => tupT K [dt K (.int (i : Nat)), Ts.getD i (isV .non)]) := fun σ H c g R q => h σ H c g _ fun us H1 e hu => by
  obtain ⟨v, rfl, a, xs, rfl, h2, h3⟩ := hu.one
  refine ⟨a, xs, rfl, h2, q _ H1 e ⟨fun H => SqT K H a xs, YPair (fun i => some (.int (i : Nat))) (fun i => xs[i]?), by rw [List.length_map, List.length_range, ← h3.length]; exact walk_enumT, h2, fun M' m => ⟨fun Ha Hb f z => f.sqT z, fun i Ha x Hb T hT f z y => ?_⟩⟩⟩
  obtain ⟨Tp, x0, y0, rfl, hn, rfl, ex, ey⟩ := y
  cases ex
  obtain ⟨hl, rfl⟩ := range_map_get hT
  obtain ⟨w, h4, h5⟩ := (m.tys h3).get (List.getElem?_eq_getElem hl)
  have ey' := h4.symm.trans ey
  cases ey'
  refine ⟨Ex.new hn, Tp, _, rfl, SqT.of upd_same, .int _, ?_, True.intro⟩
  show (Ts.getD i (isV .non)).p M' W.B y0 _
  rw [List.getD_eq_getElem?_getD, List.getElem?_eq_getElem hl]
  exact Typ.up _ (f.trans ((Ex.new (B := W.B) hn).toM m.sub)) h5
/-! ### several names at once -/
theorem tys_par (h : TyA W Γ ta [A, C]) : TyS W Γ (tPar n m ta) (nE W ((Γ.set n (some A)).set m (some C))) R Bk Ct := fun σ H c g D dn _ _ _ => h σ H c g _ fun us H1 e hu => by
  obtain ⟨v, w, rfl, h1, h2⟩ := hu.two
  exact ⟨v, w, rfl, dn _ H1 e.toW ⟨c.up e, EnvL.set h2 (EnvL.set h1 (g.up e.toW))⟩⟩
theorem tys_par3 (h : TyA W Γ ta [A, C, P]) : TyS W Γ (tPar3 n m k ta) (nE W (((Γ.set n (some A)).set m (some C)).set k (some P))) R Bk Ct := fun σ H c g D dn _ _ _ => h σ H c g _ fun us H1 e hu => by
  match us, hu with
  | [u, v, w], hu => exact ⟨u, v, w, rfl, dn _ H1 e.toW ⟨c.up e, EnvL.set hu.2.2.1 (EnvL.set hu.2.1 (EnvL.set hu.1 (g.up e.toW)))⟩⟩
/-- x = e or a, b = e by a target -/
theorem tys_asg {g : TG} (h : Ty W Γ te T) (hg : TyG W Γ g T Γ') : TyS W Γ (tAsg te g) (nE W Γ') R Bk Ct := fun σ H c e D dn _ _ _ => h σ H c e _ fun v H1 e1 hv =>
  hg v σ H1 (c.up e1) (e.up e1.toW) hv _ fun σ' H' e2 g' => dn σ' H' (e1.trans e2).toW ⟨c.up (e1.trans e2), g'⟩
/-- what just is known to be there is opened -/
theorem TyS.openX {α : Type} {A : α → Typ} {ts : TS} {n : Nat} (hn : Γ[n]? = some (some (exT A))) (h : ∀ x, TyS W (Γ.set n (some (A x))) ts N R Bk Ct) : TyS W Γ ts N R Bk Ct := fun σ H c g => by
  obtain ⟨v, h1, x, h2⟩ := g.get hn
  refine h x σ H c ?_
  have z := EnvL.set (T := A x) (i := n) h2 g
  have e : σ.set n (some v) = σ := by
    apply List.ext_getElem?
    intro i
    by_cases hi : n = i
    · subst hi
      rw [List.getElem?_set_self (List.getElem?_eq_some_iff.mp h1).1, h1]
    · rw [List.getElem?_set_ne hi]
  rw [e] at z
  exact z
theorem TyS.openG {φ : Prop} {ts : TS} {n : Nat} (hn : Γ[n]? = some (some (gd φ A))) (h : φ → TyS W (Γ.set n (some A)) ts N R Bk Ct) : TyS W Γ ts N R Bk Ct := fun σ H c g => by
  obtain ⟨v, h1, f, h2⟩ := g.get hn
  refine h f σ H c ?_
  have z := EnvL.set (T := A) (i := n) h2 g
  have e : σ.set n (some v) = σ := by
    apply List.ext_getElem?
    intro i
    by_cases hi : n = i
    · subst hi
      rw [List.getElem?_set_self (List.getElem?_eq_some_iff.mp h1).1, h1]
    · rw [List.getElem?_set_ne hi]
  rw [e] at z
  exact z
end
end Ew

end
section
set_option Elab.async false
set_option linter.all false
set_option maxRecDepth 100000
set_option maxHeartbeats 2000000
/-! EwP: dicts of one entry. -/
namespace Ew
open PySem PySem.Spec PyProof.Rows L2
theorem hu1 {a : Nat} (h : a + 64 < cLine) : a + 1 < cLine := by omega
def rLenA (K : PySem.W.Frag) : List V → Hp → VK → Prop := fun xs H Q => rLen K xs H Q ∨ ∃ a kvs, xs = [V.ref a] ∧ H a = some (.dK kvs) ∧ Q (.int (kvs.length : Nat)) H
section
variable {X : Cx} {e : Expr} {es : List Expr} {t : TA} {p pos : Pos}
theorem k_lenA {K : PySem.W.Frag} (hK : X.K = K) (m : X.mg "len" = none) (ha : PA X (e :: es) t) (hg : Gl X "len" := by rfl) (he : starEach (e :: es) X.env = (false, eval e X.env) :: starEach es X.env := by rfl) (hpl : (backTo pos (starEach es X.env)).any (·.1) = false := by rfl) :
    PE X (.Call (.Name "len" p) (e :: es) [] pos) (tCB (rLenA K) t) := hK ▸ pe_callB (CallR.or call_len call_lenD) hg m PySem.boot_len ha (by decide) (by decide) he hpl
end
section
variable {W : Wd} {Γ Γ' : Gam} {K : PySem.W.Frag} {As : List Typ} {P : Typ} {te tb : TE} {tt : TT} {i : Int} {x : Str} {kvs : List (PyData × PyData)}
theorem cbt_lenA (h : CbT W (rLen K) As P) : CbT W (rLenA K) As P := fun us H c hu Q q => .inl (h us H c hu Q q)
theorem RpK.length {M : Addr → Prop} {H : Hp} : ∀ {vs : List (Key × V)} {ds : List (PyData × PyData)}, RpK M K H vs ds → vs.length = ds.length
  | _, _, .nil => rfl
  | _, _, .cons _ r => by rw [List.length_cons, List.length_cons, RpK.length r]
theorem cbt_lenDict : CbT W (rLenA K) [dt K (.dict kvs)] (dt K (.int (kvs.length : Nat))) := fun us H c hu Q q => by
  obtain ⟨v, rfl, h⟩ := hu.one
  cases h with
  | dic h1 h2 => exact .inr ⟨_, _, rfl, h1, q _ H (Ex.refl _ _) (by rw [RpK.length h2]; exact .int _)⟩
/-- {x: i} -/
theorem ty_disp1 {tk tv : TE} (hk : Ty W Γ tk (dt K (.str x))) (hv : Ty W Γ tv (dt K (.int i))) : Ty W Γ (tDisp [(tk, tv)]) (dt K (.dict [(.str x, .int i)])) := fun σ H c g Q q => fun p hp => by
  have e0 : Ex W.B H (upd H p (.dK [])) := Ex.new hp
  refine hk σ _ (c.up e0) (g.up e0.toW) _ fun u H1 e1 h1 => hv σ H1 (c.up (e0.trans e1)) (g.up (e0.trans e1).toW) _ fun v H2 e2 h2 => ?_
  cases h1
  cases h2
  have hp2 : H2 p = some (.dK []) := e2.keepT (e1.keepT upd_same fun _ z => nomatch z) fun _ z => nomatch z
  refine ⟨hp2, [(.inr x, .int i)], rfl, (by show 1 ≤ 15; decide), q _ _ ((e0.trans (e1.trans e2)).mut hp) (.dic upd_same (.cons (.int i) .nil))⟩
end
end Ew

end
section
set_option Elab.async false
set_option linter.all false
set_option maxRecDepth 100000
set_option maxHeartbeats 1000000
/-! EwW: while by types; a list of one's own that grows. -/
namespace Ew
open PySem PySem.Spec PyProof.Rows L2
section
variable {W : Wd} {Γ Γ' : Gam} {K : PySem.W.Frag} {T : Typ} {Ts : List Typ} {te : TE} {tt : TT} {tb tw : TS} {i : Nat} {N : Sx → Hp → Prop} {R : V → Hp → Prop} {Bk Ct : Sx → Hp → Prop}
/-- while: before a turn the slots are Γi x, for some x with I; m falls -/
theorem tys_while {α : Type} (I : α → Prop) (Γi : α → Gam) (m : α → Nat) (x0 : α) (i0 : I x0) (h0 : ∀ σ H, nE W Γ σ H → nE W (Γi x0) σ H)
    (hs : ∀ x, I x → ∃ φ : Bool → Prop, Tt W (Γi x) tt φ ∧ (φ true → TyS W (Γi x) tb (fun σ H => ∃ y, I y ∧ m y < m x ∧ nE W (Γi y) σ H) R N (fun σ H => ∃ y, I y ∧ m y < m x ∧ nE W (Γi y) σ H)) ∧ (φ false → ∀ σ H, nE W (Γi x) σ H → N σ H)) :
    TyS W Γ (tWhile tt tb) N R Bk Ct := fun σ H c g D dn dr db dc => by
  refine ⟨fun n σ1 H1 => ∃ x, I x ∧ m x = n ∧ nE W (Γi x) σ1 H1 ∧ Exm W.M W.B H H1, ⟨m x0, x0, i0, rfl, h0 σ H ⟨c, g⟩, Exm.refl _ _ _⟩, ?_⟩
  rintro n σ1 H1 ⟨x, ix, rfl, n1, e1⟩
  obtain ⟨φ, ht, hy, hn⟩ := hs x ix
  refine ht σ1 H1 n1.1 n1.2 _ fun b H2 e2 hb => ?_
  have c2 := n1.1.up e2
  have g2 := n1.2.up e2.toW
  have e12 := e1.trans e2.toW
  cases b with
  | true =>
    rw [if_pos rfl]
    refine ⟨fun σ' H' => ∃ y, I y ∧ m y < m x ∧ nE W (Γi y) σ' H' ∧ Exm W.M W.B H H', fun σ' H' ⟨y, iy, ly, ny, ey⟩ => ⟨m y, ly, y, iy, rfl, ny, ey⟩, ?_⟩
    exact hy hb σ1 H2 c2 g2 _ (fun σ' H' e3 ⟨y, iy, ly, ny⟩ => ⟨y, iy, ly, ny, e12.trans e3⟩) dr (fun σ' H' e3 n3 => dn σ' H' (e12.trans e3) n3) (fun σ' H' e3 ⟨y, iy, ly, ny⟩ => ⟨y, iy, ly, ny, e12.trans e3⟩)
  | false =>
    rw [if_neg Bool.false_ne_true]
    exact dn σ1 H2 e12 (hn hb σ1 H2 ⟨c2, g2⟩)
end
/-! ### a list of one's own -/
/-- the list at D holds values of the types Ts -/
def Wd.own (W : Wd) (D : Addr) (nb : ¬ W.B D) (Ts : List Typ) : Wd := ⟨Ew.ad W.M D, W.B, W.H0, fun H => (∃ H1, W.Ω H1 ∧ H1 D = none ∧ Ex W.B H1 H) ∧ W.H0 D = none ∧ ∃ xs, H D = some (.lst xs) ∧ TysV (Ew.ad W.M D) W.B Ts xs H, fun a h => .inl (W.sub a h),
  fun e ⟨⟨H1, z1, z2, z3⟩, h0, xs, h1, h2⟩ => ⟨⟨H1, z1, z2, z3.trans e⟩, h0, xs, e.keep h1 nb, h2.up (e.toM fun a h => .inl (W.sub a h))⟩⟩
section
variable {W : Wd} {Γ Γ' : Gam} {K : PySem.W.Frag} {T U : Typ} {Ts : List Typ} {te ta : TE} {tw : TS} {i : Nat} {N : Sx → Hp → Prop} {R : V → Hp → Prop} {Bk Ct : Sx → Hp → Prop} {D : Addr} {nb : ¬ W.B D}
/-- found = [], then the rest -/
theorem tys_own (h : TyL W Γ te []) (hb : ∀ D (nb : ¬ W.B D), ¬ W.M D → TyS (W.own D nb []) (Γ.set i (some (isV (.ref D)))) tw noN R noN noN) : TyS W Γ (tSeq (tAsg te (gName i)) tw) noN R Bk Ct := fun σ H c g E dn dr db dc =>
  h σ H c g _ fun p xs H1 e hp h1 h2 => by
    have nm : ¬ W.M p := c.nm hp
    have nb : ¬ W.B p := c.nb hp
    have c1 := c.up e
    have c2 : Cxt (W.own p nb []) H1 := ⟨c1.box, fun a z => z.elim (c1.al a) (fun w => by rw [w, h1]; intro q; cases q), c1.ex, ⟨H, c.own, hp, e⟩, c.ex.free hp, xs, h1, by
      match xs, h2 with
      | [], _ => exact True.intro⟩
    have g1 : EnvL (Ew.ad W.M p) W.B Γ σ H1 := (EnvL.weak hp g).up (e.toM fun a h => .inl (W.sub a h))
    exact hb p nb nm _ H1 c2 (EnvL.set (T := isV (.ref p)) rfl g1) E (fun _ _ _ z => z.elim) dr (fun _ _ _ z => z.elim) (fun _ _ _ z => z.elim)
/-- what a def hands back out of the wider world -/
theorem tys_retO (h : Ty (W.own D nb Ts) Γ te T) : TyS (W.own D nb Ts) Γ (tRet te) noN (rW W T) Bk Ct := tys_ret h fun v H c k => ⟨c.ex, T.drop k⟩
/-- the list is done: from here on it is a list as any other -/
theorem tys_fin (hi : Γ[i]? = some (some (isV (.ref D)))) (nm : ¬ W.M D) (h : TyS W (Γ.set i (some (lstT Ts))) tw noN R noN noN) : TyS (W.own D nb Ts) Γ tw noN R Bk Ct := fun σ H c g E dn dr db dc => by
  obtain ⟨v, h1, h2⟩ := g.get hi
  have hv : v = .ref D := h2
  subst hv
  obtain ⟨⟨H1, o1, o2, o3⟩, _, xs, o4, o5⟩ := c.own
  have c1 : Cxt W H := ⟨c.box, fun a z => c.al a (.inl z), c.ex, W.kept o3 o1⟩
  have g1 : EnvL W.M W.B Γ σ H := EnvL.drop g
  have z := EnvL.set (T := lstT Ts) (i := i) (v := .ref D) ⟨D, xs, rfl, nm, o4, o5.drop⟩ g1
  have e : σ.set i (some (V.ref D)) = σ := by
    apply List.ext_getElem?
    intro j
    by_cases hj : i = j
    · subst hj
      rw [List.getElem?_set_self (List.getElem?_eq_some_iff.mp h1).1, h1]
    · rw [List.getElem?_set_ne hj]
  rw [e] at z
  exact h σ H c1 z E (fun _ _ _ z => z.elim) dr (fun _ _ _ z => z.elim) (fun _ _ _ z => z.elim)
/-- the own list's new state -/
theorem own_put {Us : List Typ} {H : Hp} {xs ys : List V} (c : Cxt (W.own D nb Ts) H) (h : H D = some (.lst xs)) (hy : TysV (Ew.ad W.M D) W.B Us ys (upd H D (.lst ys))) : Cxt (W.own D nb Us) (upd H D (.lst ys)) ∧ Exm (W.own D nb Ts).M (W.own D nb Ts).B H (upd H D (.lst ys)) := by
  have put : Exm (Ew.ad W.M D) W.B H (upd H D (.lst ys)) := Exm.put (.inr rfl) nb h
  obtain ⟨⟨H1, o1, o2, o3⟩, o0, _, _, _⟩ := c.own
  refine ⟨⟨fun a z => put.box z (c.box a z), fun a z q => ?_, c.ex.mut o0, ⟨H1, o1, o2, o3.mut o2⟩, o0, ys, upd_same, hy⟩, put⟩
  by_cases ea : a = D
  · rw [ea, upd_same] at q; cases q
  · rw [upd_ne ea] at q; exact c.al a z q
/-- found.append(e) -/
theorem tys_append (hi : Γ[i]? = some (some (isV (.ref D)))) (h : Ty (W.own D nb Ts) Γ te T) (hz : Ts.length < 1000000) : TyS (W.own D nb Ts) Γ (tDrop (tBM K "list" rAppend (tVar i) (tCons te tNil))) (nE (W.own D nb (Ts ++ [T])) Γ) R Bk Ct := fun σ H c g E dn dr db dc => by
  obtain ⟨v, h1, h2⟩ := g.get hi
  have hv : v = .ref D := h2
  subst hv
  obtain ⟨_, _, xs0, q0, _⟩ := c.own
  refine ⟨.ref D, h1, .inl ⟨rfl, _, SqL.of q0⟩, h σ H c g _ fun y H2 e hy => ?_⟩
  have c2 := c.up e
  obtain ⟨_, _, xs, q1, q2⟩ := c2.own
  have put : Exm (Ew.ad W.M D) W.B H2 (upd H2 D (.lst (xs ++ [y]))) := Exm.put (.inr rfl) nb q1
  have w := own_put (nb := nb) (Ts := Ts) (Us := Ts ++ [T]) (ys := xs ++ [y]) c2 q1 ((q2.append (show TysV (Ew.ad W.M D) W.B [T] [y] H2 from ⟨hy, True.intro⟩)).up put)
  exact ⟨D, xs, y, rfl, rfl, q1, by rw [q2.length]; exact sz_lt hz, dn σ _ (e.toW.trans w.2) ⟨w.1, (g.up e.toW).up w.2⟩⟩
end
end Ew

end
section
set_option Elab.async false
set_option linter.all false
set_option maxRecDepth 100000
set_option maxHeartbeats 2000000
/-! EwN: an own exception whose own __init__ calls the base class's own __init__ through super(), then keeps a second field, count. -/
namespace PySem
namespace WrX
open PySem.W PySem.Calls PyProof.Rows PySem.HandSPX
/-! ### the text: def __init__(self, count): super().__init__(count); self.count = count -/
def jA (p1 p2 : Pos) : Arguments := { posonlyargs := [], args := [{ arg := "self", annotation := none, pos := p1 }, { arg := "count", annotation := none, pos := p2 }], vararg := none, kwonlyargs := [], kw_defaults := [], kwarg := none, defaults := [] }
def jB (q1 q2 q3 q4 q5 q6 q7 q8 q9 q10 : Pos) : List Stmt := [.Expr (.Call (.Attribute (.Call (.Name "super" q1) [] [] q2) "__init__" q3) [.Name "count" q4] [] q5) q6, .Assign [.Attribute (.Name "self" q7) "count" q8] (.Name "count" q9) q10]
def jS : Scope := { kind := .function, names := [(PySem.Str.ofString "self", .local), (PySem.Str.ofString "count", .local), (PySem.Str.ofString "__class__", .free), (PySem.Str.ofString "super", .globalImplicit)], isGenerator := false, isCoroutine := false, more := [] }
/-- the own __init__ at fJ of the class C (a ClsTxt) over D -/
structure OwnTxt (prog : Program) (K : Frag) (qn : Str) (D fI C fJ : Addr) : Prop where
  fn : ∃ (oc : Value) (od : Option Addr) (kV doc pm : Value) (an : Option Addr) (cda cc : Addr) (ct : Value) (osl : Array (Option Value)) (p1 p2 q1 q2 q3 q4 q5 q6 q7 q8 q9 q10 : Pos) (ccl cl : Value) (cdd cld : Option Addr) (vs : Array Value) (ccs csl : Array (Option Value)) (file : Str) (tf : Tok),
    K.lookup fJ = some ⟨oc, od, .func (ksFn "__init__" qn (jA p1 p2) (jB q1 q2 q3 q4 q5 q6 q7 q8 q9 q10) jS .none kV doc pm an (.ref cda) ct cc), osl⟩ ∧ codeIn K (.ref cda) qn = true ∧
    K.lookup cda = some ⟨ccl, cdd, .fields vs, ccs⟩ ∧ vs[2]? = some (.str file tf) ∧ ((prog.main.file : Str) == file) = true ∧ K.lookup cc = some ⟨cl, cld, .cell (some (.ref C)), csl⟩ ∧ (q3.endLine == q5.line) = true
  noN : findIn K (.ref C) "count" = some none
  al : alongIn K "__init__" (.ref D :: veTail) = some (some (.ref fI))
  tI : typeIn K (.ref fI) = some (.type "function")
  fI : fnIn K fI = true
theorem mro_self {K : Frag} {C : Addr} {cd : ClassData} {l : List Value} (hcd : clsIn K C = some cd) (hm : cd.mro = .ref C :: l) : mroIn K C (.ref C) = some true := by
  unfold mroIn
  rw [hcd, Option.bind_some, hm, if_neg (show ¬ (List.isEmpty (Value.ref C :: l) = true) from Bool.false_ne_true)]
  simp
theorem drop_self (C : Addr) (l : List Value) : ((Value.ref C :: l).dropWhile (· != .ref C)).drop 1 = l := by
  rw [List.dropWhile_cons, if_neg (by simp)]
  rfl
/-- what the own __init__ leaves -/
structure OwnEnd (h h' : Heap) (x C dx t1 : Addr) (v : Value) : Prop where
  keep : ∀ b o, b ≠ x → h.get? b = some o → h'.get? b = some o
  obj : h'.get? x = some { cls := .ref C, dict := some dx, data := .fields #[.ref t1, .none, .none, .none, .bool false, .none] }
  dbig : h.objs.size ≤ dx
  dne : dx ≠ x
  ns : h'.Ns1 dx (fun y => if y = "count" then some v else if y = "given" then some v else none)
/-- a made one -/
structure OwnMade2 (h h' : Heap) (e C d : Addr) (v : Value) : Prop where
  keep : ∀ b o, h.get? b = some o → h'.get? b = some o
  new : h.objs.size ≤ e
  obj : ∃ oe vs, h'.get? e = some oe ∧ oe.cls = .ref C ∧ oe.dict = some d ∧ oe.data = .fields vs ∧ vs[1]? = some .none
  dbig : h.objs.size ≤ d
  dne : d ≠ e
  ns : h'.Ns1 d (fun y => if y = "count" then some v else if y = "given" then some v else none)
section
variable {prog : Program} {w : World} {A : Around} {E : Value → Shared → Prop} {R : Result → Shared → Prop} {s : Shared} {K : Frag} {mg mb : Str → Option Value} {C D fI fJ : Addr} {qn : Str}
theorem callWith_N {M : Model} {pos : Pos} {env : Env} {q g : Addr} {self : Value} {e : Expr} {rest : List Expr} {Q : Value → Shared → Prop} (hf : fnIn K g = true) (h : wpAny M A (spliced (backTo pos (starEach (e :: rest) env))) (fun vs s₁ => MethP K q g self s₁.heap ∧ wpAny M A (call (.ref q) vs) Q E s₁) E s)
    (he : starEach (e :: rest) env = (false, eval e env) :: starEach rest env := by rfl) (hplain : (backTo pos (starEach rest env)).any (·.1) = false := by rfl) :
    wpAny M A (callWith pos (.ref q) [] (backTo pos (starEach (e :: rest) env)) []) Q E s := by
  rw [he] at h ⊢
  exact callWith_of (by show ((false || (backTo pos (starEach rest env)).any (·.1)) || false) = false; rw [hplain]; rfl) (keeps_M hf) (evalArgs_plain h)
theorem own_init {nm : Str} (Bt : BaseTxt prog K mg D fI) (T : ClsTxt K mg nm D fJ C) (J : OwnTxt prog K qn D fI C fJ) {x t0 : Addr} {v : Value} (X : K.In s.heap) (hlim : s.heap.NoLimit) (G : s.heap.Ns mainGlobals mg) (GB : ∃ mb, s.heap.Ns builtinsNs mb ∧ ∀ x : Str, x ≠ "__name__" → mb x = bootBuiltins x)
    (hx : s.heap.get? x = some (excO C t0)) (hnx : K.lookup x = none) (hroom : A.depth + 3 < recursionLimit)
    (hq : ∀ h' tk dx t1, OwnEnd s.heap h' x C dx t1 v → R (.ok (.ret .none)) { s with heap := h', toks := tk }) :
    codeAny (model prog w) A (.call (.ref fJ) ⟨[.ref x, v], []⟩) R s := by
  obtain ⟨oc, od, kV, doc, pm, an, cda, cc, ct, osl, p1, p2, q1, q2, q3, q4, q5, q6, q7, q8, q9, q10, ccl, cl, cdd, cld, vs, ccs, csl, file, tf, ho, hcd, hcode, hvs, hfile, hcell, hline⟩ := J.fn
  obtain ⟨nm', q, N, bs, sn, sub, ab, col, dd, k0, k1, k2, k3, k5, hC⟩ := T.cls
  have hcl : clsIn K C = some { name := nm', bases := bs, mro := .ref C :: .ref D :: veTail, ns := N, qualname := q, hasDict := true, slotNames := sn, subclasses := sub, abstract := ab, collection := col, hasDel := false } := by unfold clsIn; rw [hC] <;> rfl
  obtain ⟨mb, hbn, hbm⟩ := GB
  obtain ⟨hp, g, d, t, os⟩ := s
  have hxC : x ≠ C := fun z => by rw [z, hC] at hnx; cases hnx
  refine ks_codeAny_call_defAt (fd := ksFn "__init__" qn (jA p1 p2) (jB q1 q2 q3 q4 q5 q6 q7 q8 q9 q10) jS .none kV doc pm an (.ref cda) ct cc) (body := jB q1 q2 q3 q4 q5 q6 q7 q8 q9 q10) (binds := [("self", .ref x), ("count", v)])
    (by omega) (X _ _ ho) rfl hlim (codeRec_of X hcd) rfl (.of_eq rfl) ?cell ?loc (fun h₁ hns₁ k₁ => ?_) rfl rfl rfl
  case cell =>
    intro y hy
    rcases List.mem_cons.mp hy with rfl | hy
    · exact fun z => by cases z
    rcases List.mem_cons.mp hy with rfl | hy
    · exact fun z => by cases z
    rcases List.mem_cons.mp hy with rfl | hy
    · exact fun z => by cases z
    rcases List.mem_cons.mp hy with rfl | hy
    · exact fun z => by cases z
    cases hy
  case loc =>
    intro y hy
    rcases List.mem_cons.mp hy with rfl | hy
    · rfl
    rcases List.mem_cons.mp hy with rfl | hy
    · rfl
    cases hy
  have X₁ : K.In h₁ := X.keeps k₁
  have hx₁ := k₁ _ _ hx
  have hxL : hp.objs.size ≠ x := Nat.ne_of_gt (Heap.lt_size hx)
  have hC₁ := X₁ _ _ hC
  show _root_.PySem.wpAt (model prog w) _ (.func (jB q1 q2 q3 q4 q5 q6 q7 q8 q9 q10) (ksEnv qn jS hp.objs.size fJ (.ref cda) cc)) (execs (jB q1 q2 q3 q4 q5 q6 q7 q8 q9 q10) (ksEnv qn jS hp.objs.size fJ (.ref cda) cc)) _ _ _
  refine ks_wpAt_execs_cons ?_
  refine ks_wpAt_Expr_any ?_
  refine ks_wpAt_MethodCall (pl := L2.plainOf (.Call (.Name "super" q1) [] [] q2) (ksEnv qn jS hp.objs.size fJ (.ref cda) cc)) ?_ (he_line hline)
  refine (ks_wpAt_super_base (env := ksEnv qn jS hp.objs.size fJ (.ref cda) cc) rfl rfl (by decide) rfl (X₁ _ _ ho) rfl rfl rfl (X₁ _ _ hcode) rfl hvs hfile Bt.top ?_)
  refine ks_loadName_global rfl rfl (loadGlobal_builtin (env := ksEnv qn jS hp.objs.size fJ (.ref cda) cc) (G.keeps k₁) Bt.mS (hbn.keeps k₁) ((hbm _ (by decide)).trans boot_super) ⟨rfl, ?_⟩)
  refine wpAny_loadName_free rfl rfl rfl ⟨_, X₁ _ _ hcell, rfl⟩ ?_
  refine wpAny_loadName_local (v := .ref x) rfl rfl hns₁ rfl ?_
  refine ks_wpAny_isType_cls hC₁ rfl ⟨rfl, ?_⟩
  refine ks_wpAny_call_super hC₁ rfl hx₁ rfl (fun c e => by cases e) (looks_mroIn X₁ (mro_self hcl rfl)) (fun h₂ hso k₂ => ?_)
  have X₂ : K.In h₂ := X₁.keeps k₂
  have hx₂ := k₂ _ _ hx₁
  obtain ⟨of, hof, hofc⟩ : ∃ of, h₂.get? fI = some of ∧ of.cls = .type "function" := by
    have ht' : (K.lookup fI).map (·.cls) = some (.type "function") := J.tI
    cases z : K.lookup fI with
    | none => rw [z] at ht'; cases ht'
    | some of => rw [z] at ht'; exact ⟨of, X₂ _ _ z, Option.some.inj ht'⟩
  refine ks_wpAny_getMethod_super hso (looks_opaque X₂ Bt.any) (l₀ := .ref C :: .ref D :: veTail) (fun A Q E s k q => wpAny_bind ((looks_clsIn X₂ hcl) A _ E s k (wpAny_pure q))) (drop_self _ _) X₂ J.al hof hofc hxC (by decide) ?_
  have k₃ : ∀ b o, h₂.get? b = some o → (h₂.push (methodObj (.ref fI) (.ref x))).get? b = some o := fun b o e => Heap.get?_push_of_some _ e
  have hu : (h₂.push (methodObj (.ref fI) (.ref x))).get? h₂.objs.size = some (methodObj (.ref fI) (.ref x)) := Heap.get?_push_at rfl rfl
  have hns₃ := (hns₁.keeps k₂).keeps k₃
  have X₃ : K.In (h₂.push (methodObj (.ref fI) (.ref x))) := X₂.keeps k₃
  refine callWith_N (q := h₂.objs.size) (self := .ref x) J.fI ?_
  refine spliced_more ?_
  refine ksLd (v := v) hns₃ rfl ?_
  refine spliced_none ⟨⟨hu, X₃⟩, ?_⟩
  have k03 : ∀ b o, hp.get? b = some o → (h₂.push (methodObj (.ref fI) (.ref x))).get? b = some o := fun b o e => k₃ b o (k₂ b o (k₁ b o e))
  refine wpAny_call (method_call hu ?_)
  refine we_init (s := ⟨_, g, d, _, os⟩) Bt T X₃ (hlim.keeps k03) (G.keeps k03) ⟨mb, hbn.keeps k03, hbm⟩ (k03 _ _ hx) hnx ?_ fun h₄ tk₄ dx t1 ⟨k₄, hx₄, dn, dne, hns⟩ => ?_
  · show _ < recursionLimit
    first
      | (show A.depth + 1 < recursionLimit; omega)
      | (show A.depth + 2 < recursionLimit; omega)
      | (simp only [Around.deeper]; omega)
  have k04 : ∀ b o, b ≠ x → hp.get? b = some o → h₄.get? b = some o := fun b o hb e => k₄ b o hb (k03 b o e)
  have X₄ : K.In h₄ := kept_but X hnx k04
  have hns₄ : h₄.Ns hp.objs.size (fun y => List.lookup y [(PySem.Str.ofString "self", Value.ref x), (PySem.Str.ofString "count", v)].reverse) := by
    obtain ⟨oL, es, ep, hL, r⟩ := hns₃
    exact ⟨oL, es, ep, k₄ _ _ hxL hL, r⟩
  -- self.count = count
  refine ks_wpAt_execs_cons (_root_.PySem.wpAt_of_wpAny (plainObj_wpAny_Assign_Attribute ?_))
  refine ksLd (v := v) hns₄ rfl (ksLd (v := .ref x) hns₄ rfl ?_)
  have hw : Within (fun y => if y = "given" then some v else none) ["given"] := Within.cons "given" v Within.nil
  obtain ⟨oD, esD, epD, hoD, hdD, _⟩ := hns.count hw
  refine set_plain X₄ (ox := { cls := .ref C, dict := some dx, data := .fields #[.ref t1, .none, .none, .none, .bool false, .none] }) (od := some oD) ⟨hx₄, rfl, rfl, hoD⟩ T.sa ?_
  refine PySem.OEX.osa_old X₄ hx₄ hns hw (by decide) hcl (refs_two C D) rfl J.noN (fun h₅ tk₅ k₅ hn₅ => ?_)
  have dbig : hp.objs.size ≤ dx := Nat.le_trans (by
    obtain ⟨oL, es, ep, hL, r⟩ := hns₃
    exact Nat.le_of_lt (Heap.lt_size hL)) dn
  refine _root_.PySem.wpAt_of_wpAny (wpAny_execs_nil (hq h₅ tk₅ dx t1 ⟨fun b o hb e => k₅ b o (Nat.ne_of_lt (Nat.lt_of_lt_of_le (Heap.lt_size e) dbig)) (k04 b o hb e), k₅ _ _ dne.symm hx₄, dbig, dne, hn₅⟩))
theorem own_made {nm : Str} (Bt : BaseTxt prog K mg D fI) (T : ClsTxt K mg nm D fJ C) (J : OwnTxt prog K qn D fI C fJ) {v : Value} (X : K.In s.heap) (hlim : s.heap.NoLimit) (G : s.heap.Ns mainGlobals mg) (GB : ∃ mb, s.heap.Ns builtinsNs mb ∧ ∀ x : Str, x ≠ "__name__" → mb x = bootBuiltins x) (hroom : A.depth + 4 < recursionLimit)
    (hq : ∀ h' tk e d, OwnMade2 s.heap h' e C d v → R (.ok (.ret (.ref e))) { s with heap := h', toks := tk }) :
    codeAny (model prog w) A (.call (.ref C) ⟨[v], []⟩) R s := by
  obtain ⟨nm', q, N, bs, sn, sub, ab, col, dd, k0, k1, k2, k3, k5, hC⟩ := T.cls
  obtain ⟨hp, g, dr, tk, os⟩ := s
  have k : ∀ b o, hp.get? b = some o → ((hp.push (kdv_tup [v])).push (excO C hp.objs.size)).get? b = some o := fun b o e => Heap.get?_push_of_some _ (Heap.get?_push_of_some _ e)
  have hget : ((hp.push (kdv_tup [v])).push (excO C hp.objs.size)).get? (hp.objs.size + 1) = some (excO C hp.objs.size) := by heap_get
  have hnx : K.lookup (hp.objs.size + 1) = none := by
    cases e : K.lookup (hp.objs.size + 1) with
    | none => rfl
    | some o =>
      have z : hp.get? (hp.objs.size + 1) = some o := X _ _ e
      exact absurd (Nat.lt_of_succ_lt (Heap.lt_size z)) (Nat.lt_irrefl _)
  refine call_own F.excBase_ValueError (fun X => refsVE_contains X _ (refs D)) (X _ _ hC) (looks_findIn X T.iC) (fun self => bind_fn X self T.tI) (one_size v) ?_
  obtain ⟨mb, hb1, hb2⟩ := GB
  refine own_init (s := ⟨(hp.push (kdv_tup [v])).push (excO C hp.objs.size), g, dr, tk, os⟩) Bt T J (X.keeps k) (hlim.keeps k) (G.keeps k) ⟨mb, hb1.keeps k, hb2⟩ hget hnx ?_ fun h' tk' dx t1 ⟨k', hx, dn, dne, hns⟩ => ?_
  · show A.depth + 1 + 3 < recursionLimit
    exact hroom
  · have old : ∀ b o, hp.get? b = some o → h'.get? b = some o := fun b o e => k' b o (Nat.ne_of_lt (Nat.lt_succ_of_lt (Heap.lt_size e))) (k b o e)
    have z : hp.objs.size + 1 + 1 ≤ dx := by
      first
        | (simpa only [Heap.size_push] using dn)
        | exact dn
        | (have q := dn; rw [Heap.size_push, Heap.size_push] at q; exact q)
    exact ⟨rfl, hq h' tk' (hp.objs.size + 1) dx ⟨old, Nat.le_succ _, ⟨_, _, hx, rfl, rfl, rfl, rfl⟩, Nat.le_trans (Nat.le_trans (Nat.le_succ _) (Nat.le_succ _)) z, dne, hns⟩⟩
end
end WrX
end PySem
namespace L2
open PySem PySem.Spec PyProof.Rows
theorem relO_two {v : V} {v' : Value} (r : RelV v v') (f : Str) : RelO (List.lookup f [(("count" : Str), v), (("given" : Str), v)]) (if f = "count" then some v' else if f = "given" then some v' else none) := by
  by_cases h1 : f = "count"
  · subst h1
    rw [if_pos rfl]
    have q : List.lookup ("count" : Str) [(("count" : Str), v), (("given" : Str), v)] = some v := by simp [List.lookup]
    rw [q]
    exact r
  · rw [if_neg h1]
    have qw : (f == ("count" : Str)) = false := by simpa using h1
    have q2 : List.lookup f [(("count" : Str), v), (("given" : Str), v)] = List.lookup f [(("given" : Str), v)] := by rw [List.lookup_cons, qw]
    rw [q2]
    exact relO_giv r f
section
variable {X : Cx} {D C fI fJ : Addr} {nm qn : Str}
/-- C(e), e in two fields -/
def tMkN (C : Addr) (ta : TA) : St → Hp → XK → Prop := fun σ H Q => ta σ H fun vs H1 => ∃ v, vs = [v] ∧ ∀ d, H1 d = none → Q (.ref C) (some d) (upd H1 d (.xd [(("count" : Str), v), (("given" : Str), v)]))
theorem pmk_ownN {a : Expr} {ta : TA} {p pos : Pos} {k : Nat} (hk : 4 ≤ k) (Bt : PySem.WrX.BaseTxt X.prog X.K X.mg D fI) (T : PySem.WrX.ClsTxt X.K X.mg nm D fJ C) (J : PySem.WrX.OwnTxt X.prog X.K qn D fI C fJ) (hr : Room k X.A) (ha : PA X [a] ta) (hg : Gl X nm := by rfl) (hdb : (nm == ("__debug__" : Str)) = false := by decide)
    (he : starEach (a :: []) X.env = (false, eval a X.env) :: starEach [] X.env := by rfl) (hpl : (backTo pos (starEach [] X.env)).any (·.1) = false := by rfl) :
    PMk X (.Call (.Name nm p) [a] [] pos) (tMkN C ta) := by
  intro pins s σ H Q I h
  refine wpAny_Call_Name_kw (ld_glob I hg T.gC ?_ hdb)
  refine PySem.W.callWith_K (h₀ := X.base) I.ok.mod.kin T.kC (thn (ha.run pos pins s σ H _ I h) fun us s1 hh => ?_) he hpl
  obtain ⟨vs, H1, I1, r1, v, ev, q1⟩ := hh
  subst ev
  refine ⟨I1.kIn, ?_⟩
  cases r1 with
  | cons rv rn =>
    rename_i v' us'
    cases rn
    show wpAny _ _ (call (.ref C) [v']) _ _ _
    have hlim := I1.nolimit
    obtain ⟨mb, hb1, hb2⟩ := I1.mod.blt
    have hG := I1.mod.glob.keeps I1.bk
    have hB := hb1.keeps I1.bk
    have hK := I1.kIn
    obtain ⟨hp, g, dr, tk, os⟩ := s1
    refine wpAny_call (PySem.WrX.own_made Bt T J hK hlim hG ⟨mb, hB, hb2⟩ (by have := hr.dp; omega) fun h' tk' e d M => ?_)
    show MkP X pins σ Q (.ref e) ⟨h', g, dr, tk', os⟩
    obtain ⟨oe, fv, hoe, hc, hd, hdat, h1⟩ := M.obj
    have hns := M.ns
    obtain ⟨G', g1, g2⟩ := restrict h' fun b => decide (b ≠ e)
    have gk : ∀ b, b ≠ e → G'.get? b = h'.get? b := fun b hb => g1 b (decide_eq_true hb)
    have ge : G'.get? e = none := g2 e (by simp)
    have old : ∀ b o, hp.get? b = some o → G'.get? b = some o := fun b o q => (gk b (Nat.ne_of_lt (Nat.lt_of_lt_of_le (Heap.lt_size q) M.new))).trans (M.keep b o q)
    have ob : ObjOk X.prog X.w (upd H1 d (.xd [(("count" : Str), v), (("given" : Str), v)])) G' d (.xd [(("count" : Str), v), (("given" : Str), v)]) :=
      ⟨_, hns.at (fun o q => (gk d M.dne).trans q), fun f => relO_two rv f⟩
    have J : Inv X pins σ (upd H1 d (.xd [(("count" : Str), v), (("given" : Str), v)])) ⟨G', g, dr, tk', os⟩ := I1.laid (t' := tk') old M.dbig ob
    refine ⟨e, oe, fv, ⟨G', g, dr, tk', os⟩, _, .ref C, some d, rfl, J, fun b o q => ?_, ge, hoe, ⟨hc, hd⟩, hdat, h1, ?_, rfl, I1.bare, raises_own T.exC T.tyC, q1 d (I1.hok.fresh M.dbig)⟩
    · by_cases hb : b = e
      · have q' : G'.get? b = some o := q
        rw [hb, ge] at q'; cases q'
      · exact (gk b hb).symm.trans q
    · rw [upd_ne (Ne.symm M.dne)]
      exact I1.hok.fresh M.new
/-- raise C(e) -/
def tRaiseN (C : Addr) (W : WX) (ta : TA) : TS := fun _ σ H => tMkN C ta σ H fun cls d H' => W cls d σ H'
theorem ps_raiseN {a : Expr} {ta : TA} {W : WX} {p pos pos2 : Pos} {k : Nat} (hk : 4 ≤ k) (hc : X.calm = true) (Bt : PySem.WrX.BaseTxt X.prog X.K X.mg D fI) (T : PySem.WrX.ClsTxt X.K X.mg nm D fJ C) (J : PySem.WrX.OwnTxt X.prog X.K qn D fI C fJ) (hr : Room k X.A) (tk : Takes X W) (ha : PA X [a] ta) (hg : Gl X nm := by rfl) (hdb : (nm == ("__debug__" : Str)) = false := by decide)
    (he : starEach (a :: []) X.env = (false, eval a X.env) :: starEach [] X.env := by rfl) (hpl : (backTo pos (starEach [] X.env)).any (·.1) = false := by rfl) :
    PS X (.Raise (some (.Call (.Name nm p) [a] [] pos)) none pos2) (tRaiseN C W ta) := ps_raise hc tk (pmk_ownN hk Bt T J hr ha hg hdb he hpl)
end
end L2

end
section
set_option Elab.async false
set_option linter.all false
set_option maxRecDepth 100000
set_option maxHeartbeats 1000000
/-! EwO: errors with further fields, results that are new lists, by types; a walk over a list or a tuple; worlds with one list of one's own. -/
namespace L2
open PySem PySem.Spec PyProof.Rows
def iOr (a b : TI) : TI := fun σ H R => a σ H R ∨ b σ H R
theorem PI.or {X : Cx} {tg l : Expr} {a b : TI} (h : PI X tg l a) (k : PI X tg l b) : PI X tg l (iOr a b) := ⟨fun pins s σ H R I q => q.elim (h.run pins s σ H R I) (k.run pins s σ H R I)⟩
/-- for x in l: a list, a tuple -/
def iSeq (K : PySem.W.Frag) (tl : TE) : TI := iOr (iList K tl) (iTup K tl)
theorem k_iseq {X : Cx} {K : PySem.W.Frag} (hK : X.K = K) {tg l : Expr} {tl : TE} (hl : PE X l tl) : PI X tg l (iSeq K tl) := hK ▸ (pi_list hl).or (pi_tup hl)
section
variable {X : Cx} {o e : Expr} {to : TE} {t : TA} {apos cpos : Pos}
theorem k_append {K : PySem.W.Frag} (hK : X.K = K) (ho : PE X o to) (ha : PA X [e] t) (hbase : attributeBase o "append" X.env (eval o X.env) = eval o X.env := by rfl)
    (hfew : ((backTo cpos (starEach [e] X.env)).all (fun x => !x.1) && (backToKw cpos (keywordEach [] X.env)).all (fun x => x.1.isSome) && decide ([e].length + ([] : List Keyword).length + (if ([] : List Keyword).isEmpty then 0 else 1) < 30)) = true := by rfl)
    (hline : (apos.endLine == cpos.line) = true := by rfl) (hs : starEach [e] X.env = (false, eval e X.env) :: starEach [] X.env := by rfl) (hplain : (backTo cpos (starEach [] X.env)).any (·.1) = false := by rfl) :
    PE X (.Call (.Attribute o "append" apos) [e] [] cpos) (tBM K "list" rAppend to t) := hK ▸ pe_bm PySem.F.plainAttrs_list PySem.F.slot_list_append PySem.F.type_list_append mt_append ho ha hbase hfew hline hs hplain
end
end L2
namespace Ew
open PySem PySem.Spec PyProof.Rows L2
/-! ### errors and results -/
abbrev Fl := V → List (Str × V)
def flG : Fl := fun v => [(("given" : Str), v)]
def flC : Fl := fun v => [(("count" : Str), v), (("given" : Str), v)]
/-- an error of the class c that keeps a value of the type T -/
structure Bad where
  c : Addr
  fl : Fl
  T : Typ
def HeldF (W : Wd) (fl : Fl) (T : Typ) (dd : Addr) (H : Hp) : Prop := ∃ v, H dd = some (.xd (fl v)) ∧ T.at W v H
/-- a result: M, B, the heap at the call, the value, the heap behind -/
structure Res where
  p : (Addr → Prop) → (Addr → Prop) → Hp → V → Hp → Prop
  back : ∀ {M B : Addr → Prop} {H0 H1 H : Hp} {v : V}, Ex B H0 H1 → p M B H1 v H → p M B H0 v H
def rT (T : Typ) : Res := ⟨fun M B _ v H => T.p M B v H, fun _ h => h⟩
/-- a new list -/
def rNew (Ts : List Typ) : Res := ⟨fun M B H0 v H => ∃ p xs, v = .ref p ∧ H0 p = none ∧ H p = some (.lst xs) ∧ TysV M B Ts xs H, fun e ⟨p, xs, h1, h2, h3⟩ => ⟨p, xs, h1, e.free h2, h3⟩⟩
/-- [tag, val], new; where fr says so val is a new list, too -/
def rTold (K : PySem.W.Frag) (tag : Str) (val : PyData) (fr : Prop) : Res := ⟨fun M B H0 v H => ∃ q u, v = .ref q ∧ H0 q = none ∧ H q = some (.lst [.str tag, u]) ∧ Rp M K H u val ∧ (fr → ∃ p, u = .ref p ∧ H0 p = none ∧ p ≠ q),
  fun e ⟨q, u, h1, h2, h3, h4, h5⟩ => ⟨q, u, h1, e.free h2, h3, h4, fun z => let ⟨p, k1, k2, k3⟩ := h5 z; ⟨p, k1, e.free k2, k3⟩⟩⟩
def spX {α : Type} (C : α → Prop) (A : α → List Typ) (R : α → Res) (bad : α → Option Bad) : Sp := fun vs H Q E => ∃ (M B : Addr → Prop) (x : α), (∀ a, B a → M a) ∧ (∀ a, B a → BoxAt H a) ∧ (∀ a, M a → H a ≠ none) ∧ C x ∧ TysV M B (A x) vs H ∧
  (bad x = none → ∀ v H', Ex B H H' → (R x).p M B H v H' → Q v H') ∧ (∀ b, bad x = some b → ∀ dd v H', Ex B H H' → b.T.p M B v H' → H' dd = some (.xd (b.fl v)) → E (.ref b.c) (some dd) H')
/-- .. that never raises -/
def spR {α : Type} (C : α → Prop) (A : α → List Typ) (R : α → Res) : Sp := fun vs H Q _ => ∃ (M B : Addr → Prop) (x : α), (∀ a, B a → M a) ∧ (∀ a, B a → BoxAt H a) ∧ (∀ a, M a → H a ≠ none) ∧ C x ∧ TysV M B (A x) vs H ∧
  ∀ v H', Ex B H H' → (R x).p M B H v H' → Q v H'
/-- an expression: what is known of its value behind the heap at its call -/
def TyR (W : Wd) (Γ : Gam) (te : TE) (P : Hp → V → Hp → Prop) : Prop := ∀ σ H, Cxt W H → EnvW W Γ σ H → ∀ Q : VK, (∀ v H0 H1, Ex W.B H H0 → Ex W.B H0 H1 → P H0 v H1 → Q v H1) → te σ H Q
section
variable {W : Wd} {Γ Γ' : Gam} {K : PySem.W.Frag} {tl : TA} {te ta tb : TE} {tt : TT} {T U : Typ} {α : Type} {C : α → Prop} {A : α → List Typ} {R : α → Res} {bad : α → Option Bad} {Wx : WX} {N : Sx → Hp → Prop} {Rr : V → Hp → Prop} {Bk Ct : Sx → Hp → Prop} {c : Addr} {φ : Prop} {P P' : Hp → V → Hp → Prop} {Ts : List Typ} {i : Nat}
def ErX (W : Wd) (Γ : Gam) (Wx : WX) (b : Bad) : Prop := ∀ dd σ H, nE W Γ σ H → HeldF W b.fl b.T dd H → Wx (.ref b.c) (some dd) σ H
theorem tyr_callX (x : α) (hC : C x) (h : TyA W Γ tl (A x)) (hb : ∀ b, bad x = some b → ErX W Γ Wx b) : TyR W Γ (tCallS (spX C A R bad) (WE Wx) tl) (fun H0 v H => bad x = none ∧ (R x).p W.M W.B H0 v H) := fun σ H c g Q q =>
  h σ H c g _ fun vs H1 e1 hv => ⟨W.M, W.B, x, W.sub, (c.up e1).box, (c.up e1).al, hC, hv, fun k v H2 e2 h2 => q v H1 H2 e1 e2 ⟨k, h2⟩,
    fun b k dd v H' e2 h2 h3 => hb b k dd σ H' ⟨c.up (e1.trans e2), g.up (e1.trans e2).toW⟩ ⟨v, h3, h2⟩⟩
theorem tyr_callKX {gV : List V → List V} {Us : List Typ} (x : α) (hC : C x) (h : TyA W Γ tl Us) (hg : ∀ {vs H}, TysV W.M W.B Us vs H → TysV W.M W.B (A x) (gV vs) H) (hb : ∀ b, bad x = some b → ErX W Γ Wx b) :
    TyR W Γ (tCallKS (spX C A R bad) gV (WE Wx) tl) (fun H0 v H => bad x = none ∧ (R x).p W.M W.B H0 v H) := fun σ H c g Q q =>
  h σ H c g _ fun vs H1 e1 hv => ⟨W.M, W.B, x, W.sub, (c.up e1).box, (c.up e1).al, hC, hg hv, fun k v H2 e2 h2 => q v H1 H2 e1 e2 ⟨k, h2⟩,
    fun b k dd v H' e2 h2 h3 => hb b k dd σ H' ⟨c.up (e1.trans e2), g.up (e1.trans e2).toW⟩ ⟨v, h3, h2⟩⟩
theorem tyr_callR {E : XK} (x : α) (hC : C x) (h : TyA W Γ tl (A x)) : TyR W Γ (tCall (spR C A R) [] E tl) ((R x).p W.M W.B) := fun σ H c g Q q =>
  h σ H c g _ fun vs H1 e1 hv => ⟨W.M, W.B, x, W.sub, (c.up e1).box, (c.up e1).al, hC, by rw [List.append_nil]; exact hv, fun v H2 e2 h2 => q v H1 H2 e1 e2 h2⟩
theorem TyR.sub (h : TyR W Γ te P) (k : ∀ H0 v H, P H0 v H → P' H0 v H) : TyR W Γ te P' := fun σ H c g Q q => h σ H c g Q fun v H0 H1 e0 e1 z => q v H0 H1 e0 e1 (k H0 v H1 z)
theorem TyR.ty (h : TyR W Γ te P) (k : ∀ H0 v H, Cxt W H0 → Ex W.B H0 H → P H0 v H → T.at W v H) : Ty W Γ te T := fun σ H c g Q q => h σ H c g Q fun v H0 H1 e0 e1 z => q v H1 (e0.trans e1) (k H0 v H1 (c.up e0) e1 z)
theorem TyR.tyl (h : TyR W Γ te P) (k : ∀ H0 v H, P H0 v H → (rNew Ts).p W.M W.B H0 v H) : TyL W Γ te Ts := fun σ H c g Q q => h σ H c g Q fun v H0 H1 e0 e1 z => by
  obtain ⟨p, xs, rfl, h2, h3, h4⟩ := k H0 v H1 z
  exact q p xs H1 (e0.trans e1) (e0.free h2) h3 h4
theorem Ty.tyr (h : Ty W Γ te T) : TyR W Γ te ((rT T).p W.M W.B) := fun σ H c g Q q => h σ H c g Q fun v H1 e z => q v H H1 (Ex.refl _ _) e z
theorem TyL.tyr (h : TyL W Γ te Ts) : TyR W Γ te ((rNew Ts).p W.M W.B) := fun σ H c g Q q => h σ H c g Q fun p xs H1 e h1 h2 h3 => q _ H H1 (Ex.refl _ _) e ⟨p, xs, rfl, h1, h2, h3⟩
theorem tyr_if {φ : Bool → Prop} (hc : Tt W Γ tt φ) (h1 : φ true → TyR W Γ ta P) (h2 : φ false → TyR W Γ tb P) : TyR W Γ (tIf tt ta tb) P := fun σ H c g Q q =>
  hc σ H c g _ fun b H1 e1 hb => by
    cases b with
    | true => rw [if_pos rfl]; exact h1 hb σ H1 (c.up e1) (g.up e1.toW) Q fun v H0 H2 e0 e2 h => q v H0 H2 (e1.trans e0) e2 h
    | false => rw [if_neg Bool.false_ne_true]; exact h2 hb σ H1 (c.up e1) (g.up e1.toW) Q fun v H0 H2 e0 e2 h => q v H0 H2 (e1.trans e0) e2 h
theorem tyl_if {φ : Bool → Prop} (hc : Tt W Γ tt φ) (h1 : φ true → TyL W Γ ta Ts) (h2 : φ false → TyL W Γ tb Ts) : TyL W Γ (tIf tt ta tb) Ts := (tyr_if hc (fun z => (h1 z).tyr) fun z => (h2 z).tyr).tyl fun _ _ _ z => z
/-- [tag, e] -/
theorem tyr_told {tag : Str} {val : PyData} {fr : Prop} (h : TyR W Γ te P) (k : ∀ H0 v H, P H0 v H → Rp W.M K H v val ∧ (fr → ∃ p o, v = .ref p ∧ H0 p = none ∧ H p = some o)) : TyR W Γ (tLst (tCons (tC (.str tag)) (tCons te tNil))) ((rTold K tag val fr).p W.M W.B) := fun σ H c g Q q =>
  h σ H c g _ fun v H0 H1 e0 e1 z => by
    obtain ⟨k1, k2⟩ := k H0 v H1 z
    refine ⟨by show 2 ≤ sizeLine; exact sz_le (by decide), fun p hp => q _ H0 _ e0 (e1.trans (Ex.new hp)) ⟨p, v, rfl, e1.free hp, upd_same, Rp.up (Ex.new (B := W.B) hp).toW k1, fun f => ?_⟩⟩
    obtain ⟨a, o, rfl, k3, k4⟩ := k2 f
    exact ⟨a, rfl, k3, ne_of_none k4 hp⟩
theorem Res.tdata {tag : Str} {val : PyData} {fr : Prop} {H0 H : Hp} {v : V} (c : Cxt W H0) (h : (rTold K tag val fr).p W.M W.B H0 v H) : (dt K (.list [.str tag, val])).at W v H := by
  obtain ⟨q, u, rfl, h2, h3, h4, _⟩ := h
  exact .lst h3 (c.nm h2) (.cons (.str _) (.cons h4 .nil))
/-- what a def hands back -/
def rX (W : Wd) (φ : Prop) (R : Res) : V → Hp → Prop := fun v H => φ ∧ Ex W.B W.H0 H ∧ R.p W.M W.B W.H0 v H
theorem tys_retX {R : Res} (hφ : φ) (h : TyR W Γ te (R.p W.M W.B)) : TyS W Γ (tRet te) noN (rX W φ R) Bk Ct := fun σ H c g D _ dr _ _ => h σ H c g _ fun v H0 H1 e0 e1 z => dr v H1 ⟨hφ, (c.up (e0.trans e1)).ex, R.back (c.up e0).ex z⟩
theorem tys_retXG {R : Res} (h : TyR W Γ te P) (k : ∀ H0 v H, P H0 v H → φ ∧ R.p W.M W.B H0 v H) : TyS W Γ (tRet te) noN (rX W φ R) Bk Ct := fun σ H c g D _ dr _ _ => h σ H c g _ fun v H0 H1 e0 e1 z => dr v H1 ⟨(k _ _ _ z).1, (c.up (e0.trans e1)).ex, R.back (c.up e0).ex (k _ _ _ z).2⟩
theorem tys_dropR (h : TyR W Γ te P) (k : ∀ H0 v H, P H0 v H → φ) : TyS W Γ (tDrop te) (fun σ H => φ ∧ nE W Γ σ H) Rr Bk Ct := fun σ H c g D dn _ _ _ => h σ H c g _ fun v H0 H1 e0 e1 z => dn σ H1 (e0.trans e1).toW ⟨k _ _ _ z, c.up (e0.trans e1), g.up (e0.trans e1).toW⟩
theorem tys_raiseG (h : Ty W Γ te T) (k : ErX W Γ Wx ⟨c, flG, T⟩) : TyS W Γ (tRaiseW c Wx (tCons te tNil)) noN Rr Bk Ct := fun σ H cx g D _ _ _ _ =>
  h σ H cx g _ fun v H1 e hv => ⟨v, rfl, fun d hd => k d σ _ ⟨cx.up (e.trans (Ex.new hd)), g.up (e.trans (Ex.new hd)).toW⟩ ⟨v, upd_same, T.up (Ex.new (B := W.B) hd).toW hv⟩⟩
theorem tys_raiseC (h : Ty W Γ te T) (k : ErX W Γ Wx ⟨c, flC, T⟩) : TyS W Γ (tRaiseN c Wx (tCons te tNil)) noN Rr Bk Ct := fun σ H cx g D _ _ _ _ =>
  h σ H cx g _ fun v H1 e hv => ⟨v, rfl, fun d hd => k d σ _ ⟨cx.up (e.trans (Ex.new hd)), g.up (e.trans (Ex.new hd)).toW⟩ ⟨v, upd_same, T.up (Ex.new (B := W.B) hd).toW hv⟩⟩
/-- the caught error's name -/
def erF (dd a : Addr) (fl : Fl) (T : Typ) : Typ := ⟨fun M B v H => v = .ref a ∧ ∃ u, H dd = some (.xd (fl u)) ∧ T.p M B u H, fun e ⟨h, u, h1, h2⟩ => ⟨h, u, e.keepT h1 (fun _ z => nomatch z), T.up e h2⟩, fun n ⟨h, u, h1, h2⟩ => ⟨h, u, h1, T.weak n h2⟩, fun ⟨h, u, h1, h2⟩ => ⟨h, u, h1, T.drop h2⟩⟩
theorem ty_field {a dd : Addr} {cls : Value} {d : Option Addr} {fl : Fl} {n : Str} (hn : ∀ u, (fl u).lookup n = some u) (hc : cls = .ref c) (hd : d = some dd) (h : Ty W Γ te (erF dd a fl T)) : Ty W Γ (tXf a cls d c n te) T := fun σ H cx g Q q =>
  h σ H cx g _ fun v H1 e ⟨e1, u, h1, h2⟩ => ⟨e1, hc, dd, _, u, hd, h1, hn u, q u H1 e h2⟩
theorem flG_given : ∀ u, (flG u).lookup ("given" : Str) = some u := fun u => by simp [flG, List.lookup]
theorem flC_count : ∀ u, (flC u).lookup ("count" : Str) = some u := fun u => by simp [flC, List.lookup]
theorem hdl_hitX {Wout : WX} {l : List Hdl} {D : Ends} {i : Nat} {ts : Addr → Value → Option Addr → TS} {fl : Fl} {dd : Addr} {σ : Sx} {H : Hp} {cc : Value} (hc : PySem.W.exmOne K (.ref c) cc = some true) (n : nE W Γ σ H) (hd : HeldF W fl T dd H)
    (dr : ∀ v H', Rr v H' → D.rt v H') (hs : ∀ a, TyS W (Γ.set i (some (erF dd a fl T))) (ts a (.ref c) (some dd)) noN Rr noN noN) : wManyA K Wout D ((cc, i, ts) :: l) (.ref c) (some dd) σ H :=
  ⟨true, hc, fun _ a ha => by
    obtain ⟨u, h1, h2⟩ := hd
    exact hs a _ H n.1 (EnvL.set (T := erF dd a fl T) ⟨rfl, u, h1, h2⟩ n.2) _ (fun _ _ _ z => z.elim) dr (fun _ _ _ z => z.elim) (fun _ _ _ z => z.elim), fun z => Bool.noConfusion z⟩
theorem tyi_seqT (h : Ty W Γ te (tupT K Ts)) : TyI W Γ (iSeq K te) Ts := fun σ H c g R q => .inr (tyi_tup h σ H c g R q)
theorem tyi_seqL (h : Ty W Γ te (lstT Ts)) : TyI W Γ (iSeq K te) Ts := fun σ H c g R q => .inl (tyi_lst h σ H c g R q)
end
section
variable {P : Program} {w : World} {K : PySem.W.Frag} {mg : Str → Option Value} {base : Heap}
theorem fn_tyX {x qual : Str} {st : Stmt} {f : Addr} {fd : FuncData} {N ps : List Str} {k : Nat} {α : Type} {C : α → Prop} {A : α → List Typ} {R : α → Res} {bad : α → Option Bad} (F : Fun K x qual st f fd) (S : FnScope N ps (defScope st))
    (len : ∀ x, C x → (A x).length = ps.length)
    (hbody : ∀ (cdv : Value) (Ar : Around) (outer : List Env) (s : Shared) (H : Hp) (E : XK), Room k (Ar.deeper (envOfC qual (defScope st) s.heap.objs.size f cdv)) →
      ∃ t, PSs (cxOf (L2.CX P w) P w K mg base N qual (defScope st) f cdv Ar outer s H E) (defBody st) t ∧ ∀ (W : Wd) (x : α), C x → (∀ Γ b, bad x = some b → ErX W Γ (fun cls d _ H => E cls d H) b) →
        TyS W ((A x).map some ++ List.replicate (N.length - ps.length) none) t (fun _ H' => rX W (bad x = none) (R x) .non H') (rX W (bad x = none) (R x)) noN noN) :
    FnOk P w K mg base (L2.CX P w) (k + 1) f fd ps (spX C A R bad) := by
  refine F.okX S (fun vs H Q E h => ?_) fun cdv Ar outer s H vs Q E hr h => ?_
  · obtain ⟨M, B, x, _, _, _, hC, h, _⟩ := h
    rw [h.length, len x hC]
  · obtain ⟨M, B, x, hs, hb, ha, hC, h, q, qe⟩ := h
    obtain ⟨t, ht, k⟩ := hbody cdv Ar outer s H E hr
    refine ⟨t, ht, k (Wd.base M B H hs) x hC (fun Γ b hb dd σ H' n hl => ?_) (L2.start N vs) H ⟨hb, ha, Ex.refl B H, True.intro⟩ ?_ _ (fun σ' H' _ n => q n.1 _ _ n.2.1 n.2.2) (fun v H' n => q n.1 _ _ n.2.1 n.2.2) (fun _ _ _ z => z.elim) (fun _ _ _ z => z.elim)⟩
    · obtain ⟨v, h1, h2⟩ := hl
      exact qe b hb dd v H' n.1.ex h2 h1
    · unfold L2.start
      have e : vs.length = ps.length := by rw [h.length, len x hC]
      rw [e]
      exact env_start h _
theorem fn_tyR {x qual : Str} {st : Stmt} {f : Addr} {fd : FuncData} {N ps : List Str} {k : Nat} {α : Type} {C : α → Prop} {A : α → List Typ} {R : α → Res} (F : Fun K x qual st f fd) (S : FnScope N ps (defScope st))
    (len : ∀ x, C x → (A x).length = ps.length)
    (hbody : ∀ (cdv : Value) (Ar : Around) (outer : List Env) (s : Shared) (H : Hp) (E : XK), Room k (Ar.deeper (envOfC qual (defScope st) s.heap.objs.size f cdv)) →
      ∃ t, PSs (cxOf (L2.CX P w) P w K mg base N qual (defScope st) f cdv Ar outer s H E).nox (defBody st) t ∧ ∀ (W : Wd) (x : α), C x → TyS W ((A x).map some ++ List.replicate (N.length - ps.length) none) t (fun _ H' => rX W True (R x) .non H') (rX W True (R x)) noN noN) :
    FnOk P w K mg base (L2.CX P w) (k + 1) f fd ps (spR C A R) := by
  refine okN F S (fun vs H Q E h => ?_) fun cdv Ar outer s H vs Q E hr h => ?_
  · obtain ⟨M, B, x, _, _, _, hC, h, _⟩ := h
    rw [h.length, len x hC]
  · obtain ⟨M, B, x, hs, hb, ha, hC, h, q⟩ := h
    obtain ⟨t, ht, k⟩ := hbody cdv Ar outer s H E hr
    refine ⟨t, ht, k (Wd.base M B H hs) x hC (L2.start N vs) H ⟨hb, ha, Ex.refl B H, True.intro⟩ ?_ _ (fun σ' H' _ n => q _ _ n.2.1 n.2.2) (fun v H' n => q _ _ n.2.1 n.2.2) (fun _ _ _ z => z.elim) (fun _ _ _ z => z.elim)⟩
    unfold L2.start
    have e : vs.length = ps.length := by rw [h.length, len x hC]
    rw [e]
    exact env_start h _
end
section
variable {W : Wd} {Γ : Gam} {te : TE} {g : TG} {R : V → Hp → Prop} {Bk Ct : Sx → Hp → Prop}
/-- a, b = e: just something is known of e -/
theorem tys_asgX {α : Type} {A : α → Typ} {φ : α → Prop} {Γ' : α → Gam} (h : Ty W Γ te (exT fun x => gd (φ x) (A x))) (hg : ∀ x, TyG W Γ g (A x) (Γ' x)) : TyS W Γ (tAsg te g) (fun σ H => ∃ x : { x // φ x }, nE W (Γ' x.1) σ H) R Bk Ct := fun σ H c e D dn _ _ _ => h σ H c e _ fun v H1 e1 ⟨x, hx, hv⟩ =>
  hg x v σ H1 (c.up e1) (e.up e1.toW) hv _ fun σ' H' e2 g' => dn σ' H' (e1.trans e2).toW ⟨⟨x, hx⟩, c.up (e1.trans e2), g'⟩
end
/-! ### sizes -/
def bd (n : Nat) (v : Int) : Prop := v.natAbs < 2 ^ n
section
variable {a b : Int} {n m : Nat}
theorem bd_log (h : bd n a) : a.natAbs.log2 ≤ n := by
  by_cases z : a.natAbs = 0
  · rw [z]; exact Nat.zero_le _
  · exact Nat.le_of_lt ((Nat.log2_lt z).mpr h)
theorem bd.mono (h : bd n a) (k : n ≤ m) : bd m a := Nat.lt_of_lt_of_le h (Nat.pow_le_pow_right (by decide) k)
theorem bd.mul (h : bd n a) (k : bd m b) : bd (n + m) (a * b) := by
  unfold bd at *
  rw [Int.natAbs_mul, Nat.pow_add]
  exact Nat.mul_lt_mul_of_lt_of_le h (Nat.le_of_lt k) (Nat.lt_of_le_of_lt (Nat.zero_le _) k)
theorem bd.sub (h : bd n a) (k : bd n b) : bd (n + 1) (a - b) := by
  unfold bd at *
  rw [Nat.pow_succ]; omega
theorem bd.add (h : bd n a) (k : bd n b) : bd (n + 1) (a + b) := by
  unfold bd at *
  rw [Nat.pow_succ]; omega
theorem bd.div (h : bd n a) (k : 0 < b) : bd n (a / b) := by
  unfold bd at *
  have := Int.natAbs_ediv_le_natAbs a b
  omega
theorem bd.div_ok (k : 0 < b) (h : bd n b) (hn : n ≤ 8000) : L2.CDivW a b := ⟨k, by have := bd_log h; omega⟩
theorem bd.mul_ok (h : bd n a) (k : bd m b) (hn : n + m ≤ 100000) : L2.CMulW a b := by
  have h1 := bd_log h
  have h2 := bd_log k
  unfold L2.CMulW
  omega
theorem bd.le (h : bd n a) (h0 : 0 ≤ b) (k : b ≤ a) : bd n b := by
  unfold bd at *; omega
end
/-! ### one list of one's own, further -/
section
variable {W : Wd} {Γ Γ' : Gam} {K : PySem.W.Frag} {T U : Typ} {Ts Us : List Typ} {te ta tj : TE} {ts tw : TS} {tt : TT} {i : Nat} {N N' : Sx → Hp → Prop} {R : V → Hp → Prop} {Bk Ct : Sx → Hp → Prop} {D : Addr} {nb : ¬ W.B D} {P : Hp → V → Hp → Prop} {φ : Bool → Prop}
theorem Exm.adM {M B : Addr → Prop} {H H' : Hp} (e : Exm M B H H') : Exm (Ew.ad M D) B H H' := fun a o h => (e a o h).imp id fun ⟨m, r⟩ => ⟨.inl m, r⟩
theorem own_out {H : Hp} (c : Cxt (W.own D nb Ts) H) : Cxt W H := by
  obtain ⟨⟨H1, o1, o2, o3⟩, _⟩ := c.own
  exact ⟨c.box, fun a z => c.al a (.inl z), c.ex, W.kept o3 o1⟩
/-- without the list at D -/
theorem Exm.less {M B : Addr → Prop} {H H1 H2 : Hp} (e : Ex B H H1) (f : Exm (Ew.ad M D) B H1 H2) (s : ∀ a, B a → M a) (hD : H D = none) : Exm M B H H2 := fun a o h => by
  have ne := ne_of_none h hD
  have e' : Exm M B H H1 := e.toM s
  rcases e' a o h with q | ⟨m, ⟨xs, rfl⟩, ⟨ys, q⟩, b⟩
  · rcases f a o q with r | ⟨m, x, y, b⟩
    · exact .inl r
    · exact .inr ⟨m.resolve_right ne, x, y, fun z z2 => b z (by obtain ⟨xs, z3, z4⟩ := z2; rw [h] at z3; cases z3; exact ⟨xs, q, z4⟩)⟩
  · rcases f a _ q with r | ⟨_, _, y, b'⟩
    · exact .inr ⟨m, ⟨xs, rfl⟩, ⟨ys, r⟩, fun z1 z2 => by
        obtain ⟨zs, z3, z4⟩ := b z1 z2
        rw [q] at z3; cases z3
        exact ⟨ys, r, z4⟩⟩
    · exact .inr ⟨m, ⟨xs, rfl⟩, y, fun z1 z2 => b' z1 (b z1 z2)⟩
theorem Tt.back (h : Tt W Γ' tt φ) (k : ∀ σ H, nE (W.own D nb Ts) Γ σ H → EnvW W Γ' σ H) : Tt (W.own D nb Ts) Γ tt φ := fun σ H c g Q q => h σ H (own_out c) (k σ H ⟨c, g⟩) Q q
theorem Ty.back (h : Ty W Γ' te T) (k : ∀ σ H, nE (W.own D nb Ts) Γ σ H → EnvW W Γ' σ H) (t : ∀ v H, T.p W.M W.B v H → U.p (Ew.ad W.M D) W.B v H) : Ty (W.own D nb Ts) Γ te U := fun σ H c g Q q => h σ H (own_out c) (k σ H ⟨c, g⟩) Q fun v H1 e z => q v H1 e (t v H1 z)
theorem TyS.back (h : TyS W Γ' ts N R Bk Ct) (k : ∀ σ H, nE (W.own D nb Ts) Γ σ H → EnvW W Γ' σ H) : TyS (W.own D nb Ts) Γ ts N R Bk Ct := fun σ H c g E dn dr db dc =>
  h σ H (own_out c) (k σ H ⟨c, g⟩) E (fun σ' H' e n => dn σ' H' e.adM n) dr (fun σ' H' e n => db σ' H' e.adM n) fun σ' H' e n => dc σ' H' e.adM n
theorem tys_seqB (h1 : TyS (W.own D nb Ts) Γ ts (nE W Γ') R Bk Ct) (h2 : TyS W Γ' tw N R Bk Ct) : TyS (W.own D nb Ts) Γ (tSeq ts tw) N R Bk Ct := fun σ H c g E dn dr db dc =>
  h1 σ H c g { E with nx := tw E } (fun σ' H' e n => h2 σ' H' n.1 n.2 E (fun σ2 H2 e2 => dn σ2 H2 (e.trans e2.adM)) dr (fun σ2 H2 e2 => db σ2 H2 (e.trans e2.adM)) fun σ2 H2 e2 => dc σ2 H2 (e.trans e2.adM)) dr db dc
/-- x = e, with it comes a new list at D -/
theorem tys_ownR {T : Addr → Typ} (h : TyR W Γ te P) (k : ∀ H0 v H, Cxt W H0 → Ex W.B H0 H → P H0 v H → ∃ p xs, H0 p = none ∧ H p = some (.lst xs) ∧ TysV (Ew.ad W.M p) W.B Ts xs H ∧ (T p).p (Ew.ad W.M p) W.B v H)
    (hb : ∀ D (nb : ¬ W.B D), ¬ W.M D → TyS (W.own D nb Ts) (Γ.set i (some (T D))) tw N R noN noN) : TyS W Γ (tSeq (tAsg te (gName i)) tw) N R Bk Ct := fun σ H c g E dn dr db dc =>
  h σ H c g _ fun v H0 H1 e0 e1 z => by
    obtain ⟨p, xs, h0, h1, h2, h3⟩ := k H0 v H1 (c.up e0) e1 z
    have hp : H p = none := e0.free h0
    have e := e0.trans e1
    have nm : ¬ W.M p := c.nm hp
    have nb : ¬ W.B p := c.nb hp
    have c1 := c.up e
    have c2 : Cxt (W.own p nb Ts) H1 := ⟨c1.box, fun a z => z.elim (c1.al a) (fun w => by rw [w, h1]; intro q; cases q), c1.ex, ⟨H, c.own, hp, e⟩, c.ex.free hp, xs, h1, h2⟩
    have g1 : EnvL (Ew.ad W.M p) W.B Γ σ H1 := (EnvL.weak hp g).up (e.toM fun a h => .inl (W.sub a h))
    exact hb p nb nm _ H1 c2 (EnvL.set (T := T p) h3 g1) E (fun σ' H' e' n => dn σ' H' (Exm.less e e' W.sub hp) n) dr (fun _ _ _ z => z.elim) (fun _ _ _ z => z.elim)
/-- e.append(u), e the own list -/
theorem tys_appendE (he : Ty (W.own D nb Ts) Γ ta (isV (.ref D))) (h : Ty (W.own D nb Ts) Γ te T) (hz : Ts.length < 1000000) : TyS (W.own D nb Ts) Γ (tDrop (tBM K "list" rAppend ta (tCons te tNil))) (nE (W.own D nb (Ts ++ [T])) Γ) R Bk Ct := fun σ H c g E dn dr db dc =>
  he σ H c g _ fun v H1 e1 hv => by
  have hv : v = .ref D := hv
  subst hv
  have c1 := c.up e1
  obtain ⟨_, _, xs0, q0, _⟩ := c1.own
  refine ⟨.inl ⟨rfl, _, SqL.of q0⟩, h σ H1 c1 (g.up e1.toW) _ fun y H2 e hy => ?_⟩
  have c2 := c1.up e
  have e12 := e1.trans e
  obtain ⟨_, _, xs, q1, q2⟩ := c2.own
  have put : Exm (Ew.ad W.M D) W.B H2 (upd H2 D (.lst (xs ++ [y]))) := Exm.put (.inr rfl) nb q1
  have w := own_put (nb := nb) (Ts := Ts) (Us := Ts ++ [T]) (ys := xs ++ [y]) c2 q1 ((q2.append (show TysV (Ew.ad W.M D) W.B [T] [y] H2 from ⟨hy, True.intro⟩)).up put)
  exact ⟨D, xs, y, rfl, rfl, q1, by rw [q2.length]; exact sz_lt hz, dn σ _ (e12.toW.trans w.2) ⟨w.1, (g.up e12.toW).up w.2⟩⟩
theorem TysV.setT {M B : Addr → Prop} {H : Hp} {y : V} (hy : T.p M B y H) : ∀ {Ts : List Typ} {xs : List V} (k : Nat), TysV M B Ts xs H → TysV M B (Ts.set k T) (xs.set k y) H
  | [], [], _, h => h
  | _ :: _, _ :: _, 0, h => ⟨hy, h.2⟩
  | _ :: _, _ :: _, k + 1, h => ⟨h.1, TysV.setT hy k h.2⟩
  | [], _ :: _, _, h => h.elim
  | _ :: _, [], _, h => h.elim
/-- found[k] = e, found the own list -/
theorem tys_put {k : Nat} (hi : Γ[i]? = some (some (isV (.ref D)))) (h : Ty (W.own D nb Ts) Γ te T) (hj : Ty (W.own D nb Ts) Γ tj (dt K (.int (k : Nat)))) (hk : k < Ts.length) : TyS (W.own D nb Ts) Γ (tAsg te (gSub (tVar i) tj rSetL)) (nE (W.own D nb (Ts.set k T)) Γ) R Bk Ct := fun σ H c g E dn dr db dc =>
  h σ H c g _ fun y H1 e1 hy => by
  have c1 := c.up e1
  have g1 := g.up e1.toW
  obtain ⟨v, h1, h2⟩ := g1.get hi
  have hv : v = .ref D := h2
  subst hv
  refine ⟨.ref D, h1, hj σ H1 c1 g1 _ fun u H2 e2 hu => ?_⟩
  cases hu
  have c2 := c1.up e2
  have e12 := e1.trans e2
  obtain ⟨_, _, xs, q1, q2⟩ := c2.own
  have hy2 := T.up (e2.toM (M := Ew.ad W.M D) fun a h => .inl (W.sub a h)) hy
  have put : Exm (Ew.ad W.M D) W.B H2 (upd H2 D (.lst (xs.set k y))) := Exm.put (.inr rfl) nb q1
  have w := own_put (nb := nb) (Ts := Ts) (Us := Ts.set k T) (ys := xs.set k y) c2 q1 ((TysV.setT hy2 k q2).up put)
  refine ⟨D, xs, (k : Int), k, rfl, rfl, q1, ?_, dn σ _ (e12.toW.trans w.2) ⟨w.1, (g.up e12.toW).up w.2⟩⟩
  have hl : k < xs.length := by rw [q2.length]; exact hk
  unfold ixN
  simp [hl]
/-- found[k] -/
theorem ty_ixO {k : Nat} {A : Typ} (hi : Γ[i]? = some (some (isV (.ref D)))) (hj : Ty (W.own D nb Ts) Γ tj (dt K (.int (k : Nat)))) (e : Ts[k]? = some A) : Ty (W.own D nb Ts) Γ (tOp (rIx K) (tVar i) tj) A := fun σ H c g Q q => by
  obtain ⟨v, h1, h2⟩ := g.get hi
  have hv : v = .ref D := h2
  subst hv
  refine ⟨.ref D, h1, hj σ H c g _ fun u H1 e1 hu => ?_⟩
  cases hu
  obtain ⟨_, _, xs, q1, q2⟩ := (c.up e1).own
  obtain ⟨w, h3, h4⟩ := q2.get e
  exact .inl ⟨D, xs, (k : Int), w, rfl, rfl, SqL.of q1, atI_nat h3, q w H1 e1 h4⟩
/-- found.append(e), just something is known of e -/
theorem tys_appendX {α : Type} {φ : α → Prop} {A : α → Typ} (hi : Γ[i]? = some (some (isV (.ref D)))) (h : Ty (W.own D nb Ts) Γ te (exT fun x => gd (φ x) (A x))) (hz : Ts.length < 1000000) : TyS (W.own D nb Ts) Γ (tDrop (tBM K "list" rAppend (tVar i) (tCons te tNil))) (fun σ H => ∃ x : { x // φ x }, nE (W.own D nb (Ts ++ [A x.1])) Γ σ H) R Bk Ct := fun σ H c g E dn dr db dc => by
  obtain ⟨v, h1, h2⟩ := g.get hi
  have hv : v = .ref D := h2
  subst hv
  obtain ⟨_, _, xs0, q0, _⟩ := c.own
  refine ⟨.ref D, h1, .inl ⟨rfl, _, SqL.of q0⟩, h σ H c g _ fun y H2 e ⟨x, hx, hy⟩ => ?_⟩
  have c2 := c.up e
  obtain ⟨_, _, xs, q1, q2⟩ := c2.own
  have put : Exm (Ew.ad W.M D) W.B H2 (upd H2 D (.lst (xs ++ [y]))) := Exm.put (.inr rfl) nb q1
  have w := own_put (nb := nb) (Ts := Ts) (Us := Ts ++ [A x]) (ys := xs ++ [y]) c2 q1 ((q2.append (show TysV (Ew.ad W.M D) W.B [A x] [y] H2 from ⟨hy, True.intro⟩)).up put)
  exact ⟨D, xs, y, rfl, rfl, q1, by rw [q2.length]; exact sz_lt hz, dn σ _ (e.toW.trans w.2) ⟨⟨x, hx⟩, w.1, (g.up e.toW).up w.2⟩⟩
/-- found[k] = e, just something is known of e -/
theorem tys_putX {α : Type} {φ : α → Prop} {A : α → Typ} {k : Nat} (hi : Γ[i]? = some (some (isV (.ref D)))) (h : Ty (W.own D nb Ts) Γ te (exT fun x => gd (φ x) (A x))) (hj : Ty (W.own D nb Ts) Γ tj (dt K (.int (k : Nat)))) (hk : k < Ts.length) : TyS (W.own D nb Ts) Γ (tAsg te (gSub (tVar i) tj rSetL)) (fun σ H => ∃ x : { x // φ x }, nE (W.own D nb (Ts.set k (A x.1))) Γ σ H) R Bk Ct := fun σ H c g E dn dr db dc =>
  h σ H c g _ fun y H1 e1 ⟨x, hx, hy⟩ => by
  have c1 := c.up e1
  have g1 := g.up e1.toW
  obtain ⟨v, h1, h2⟩ := g1.get hi
  have hv : v = .ref D := h2
  subst hv
  refine ⟨.ref D, h1, hj σ H1 c1 g1 _ fun u H2 e2 hu => ?_⟩
  cases hu
  have c2 := c1.up e2
  have e12 := e1.trans e2
  obtain ⟨_, _, xs, q1, q2⟩ := c2.own
  have hy2 := (A x).up (e2.toM (M := Ew.ad W.M D) fun a h => .inl (W.sub a h)) hy
  have put : Exm (Ew.ad W.M D) W.B H2 (upd H2 D (.lst (xs.set k y))) := Exm.put (.inr rfl) nb q1
  have w := own_put (nb := nb) (Ts := Ts) (Us := Ts.set k (A x)) (ys := xs.set k y) c2 q1 ((TysV.setT hy2 k q2).up put)
  refine ⟨D, xs, (k : Int), k, rfl, rfl, q1, ?_, dn σ _ (e12.toW.trans w.2) ⟨⟨x, hx⟩, w.1, (g.up e12.toW).up w.2⟩⟩
  have hl : k < xs.length := by rw [q2.length]; exact hk
  unfold ixN
  simp [hl]
end
section
variable {W : Wd} {Γ : Gam} {K : PySem.W.Frag} {te : TE} {g : TG} {tb : TS} {N : Sx → Hp → Prop} {R : V → Hp → Prop} {Bk Ct : Sx → Hp → Prop}
/-- range(n), n told -/
def iItr (n : Nat) : TI := fun _ H R => R (Itr 0 n) H
theorem tyi_itr {n : Nat} : TyI W Γ (iItr n) ((List.range n).map fun i => dt K (.int (i : Nat))) := fun σ H c g R q => by
  refine q _ H (Ex.refl _ _) ⟨fun _ => True, YFn fun i => .int (0 + i), by rw [List.length_map, List.length_range]; exact walk_range, True.intro, fun M' m => ⟨fun _ _ _ _ => True.intro, fun i Ha x Hb T hT f z y => ?_⟩⟩
  obtain ⟨rfl, y⟩ := y
  obtain ⟨hl, rfl⟩ := range_map_get hT
  subst y
  refine ⟨Ex.refl _ _, ?_⟩
  show Rp M' K Hb (V.int (0 + (i : Int))) (.int (i : Int))
  rw [Int.zero_add]
  exact .int _
/-- for .. in range(e): just something is known of e -/
theorem tys_rngX {φ : Nat → Prop} (h : Ty W Γ te (exT fun n : Nat => gd (φ n) (dt K (.int (n : Nat))))) (hz : ∀ n, φ n → n ≤ 1000000000) (hs : ∀ n, φ n → TyS W Γ (tFor (iItr n) g tb) N R Bk Ct) : TyS W Γ (tFor (iRng1 (tCons te tNil)) g tb) N R Bk Ct := fun σ H c e D dn dr db dc =>
  h σ H c e _ fun v H1 e1 ⟨n, hn, hv⟩ => by
    cases hv
    have := hz n hn
    exact ⟨(n : Int), rfl, by omega, by omega, hs n hn σ H1 (c.up e1) (e.up e1.toW) D (fun σ2 H2 e2 => dn σ2 H2 (e1.toW.trans e2)) dr (fun σ2 H2 e2 => db σ2 H2 (e1.toW.trans e2)) fun σ2 H2 e2 => dc σ2 H2 (e1.toW.trans e2)⟩
end
end Ew

end
set_option Elab.async false
set_option linter.all false
set_option maxRecDepth 100000
set_option maxHeartbeats 400000
namespace Lk02
section
open PySem L2 Ew
local macro_rules | `(tactic| tm_at "side") => `(tactic| first | assumption | omega | decide | (exact sm_mul (by assumption) (by assumption)) | (exact ⟨by decide, by decide, by decide⟩) | (exact ⟨by decide, by decide⟩) | (exact .inl ⟨by decide, by decide⟩) | (exact .inr ⟨by decide, by decide⟩) | (simp only [List.length_cons, List.length_nil, List.length_map, List.length_range]; omega) | rfl)
local macro_rules | `(tactic| tm_at "op") => `(tactic| first
  | (with_reducible exact opt_add) | (with_reducible exact opt_sub) | (with_reducible exact opt_lt) | (with_reducible exact opt_le) | (with_reducible exact opt_gt) | (with_reducible exact opt_ge)
  | (with_reducible exact opt_eqI) | (with_reducible exact opt_neI) | (with_reducible exact opt_eqB) | (with_reducible exact opt_neB) | (with_reducible exact opt_eqS) | (with_reducible exact opt_neS)
  | (with_reducible exact opt_isN) | (with_reducible exact opt_notN) | (with_reducible exact opt_isB)
  | ((with_reducible refine' opt_mod ?s1); (case s1 => tm_at "side"))
  | ((with_reducible refine' opt_catT ?s1); (case s1 => tm_at "side"))
  | ((with_reducible refine' opt_catL ?s1); (case s1 => tm_at "side"))
  | (with_reducible exact opt_ix0)
  | ((with_reducible refine' opt_ixT ?s1); (case s1 => tm_at "side"))
  | ((with_reducible refine' opt_ixL ?s1); (case s1 => tm_at "side"))
  | ((with_reducible refine' opt_mul ?s1); (case s1 => tm_at "side"))
  | ((with_reducible refine' opt_mulW ?s1); (case s1 => tm_at "side"))
  | ((with_reducible refine' opt_div ?s1); (case s1 => tm_at "side"))
  | ((with_reducible refine' opt_pow ?s1); (case s1 => tm_at "side"))
  | ((with_reducible refine' opt_eqD ?s1 ?s2); (case s1 => tm_at "side"); (case s2 => tm_at "side"))
  | ((with_reducible refine' opt_neD ?s1 ?s2); (case s1 => tm_at "side"); (case s2 => tm_at "side")))
local macro_rules | `(tactic| tm_at "cb") => `(tactic| first
  | (with_reducible exact cbt_lenT) | (with_reducible exact cbt_lenL) | (with_reducible exact cbt_lenLT) | ((with_reducible refine' cbt_lenS ?s1); (case s1 => tm_at "side"))
  | ((with_reducible refine' cbt_isi ?s1); (case s1 => decide))
  | (with_reducible exact cbt_abs) | (with_reducible exact cbt_max2) | (with_reducible exact cbt_min2) | (with_reducible exact cbt_intI) | (with_reducible exact cbt_intB)
  | (with_reducible exact cbt_sum) | (with_reducible exact cbt_all) | (with_reducible exact cbt_tupL) | (with_reducible exact cbt_tupT))
local macro_rules | `(tactic| tm_at "tya") => `(tactic| first
  | (with_reducible exact tya_nil)
  | ((with_reducible refine' tya_cons ?h1 ?h2); (case h1 => tm_at "ty"); (case h2 => tm_at "tya")))
local macro_rules | `(tactic| tm_at "ty") => `(tactic| first
  | assumption
  | ((with_reducible refine' ty_var ?h1); (case h1 => rfl))
  | (with_reducible exact ty_int) | (with_reducible exact ty_bl) | (with_reducible exact ty_non) | (with_reducible exact ty_str) | (exact ty_int (K := by assumption)) | (exact ty_bl (K := by assumption)) | (exact ty_non (K := by assumption)) | (exact ty_str (K := by assumption)) | (with_reducible exact ty_c)
  | ((with_reducible refine' ty_isi2 ?h1 ?h2 ?h3); (case h1 => tm_at "ty"); (case h2 => decide); (case h3 => decide))
  | ((with_reducible refine' ty_cb ?h1 ?h2); (case h1 => tm_at "tya"); (case h2 => tm_at "cb"))
  | ((with_reducible refine' ty_op ?h1 ?h2 ?h3); (case h1 => tm_at "ty"); (case h2 => tm_at "ty"); (case h3 => tm_at "op"))
  | ((with_reducible refine' ty_un ?h1 ?h2); (case h1 => tm_at "ty"); (case h2 => exact unt_neg))
  | ((with_reducible refine' ty_andV ?h1 ?h2); (case h1 => tm_at "ty"); (case h2 => intro _; tm_at "ty"))
  | ((with_reducible refine' ty_orV ?h1 ?h2); (case h1 => tm_at "ty"); (case h2 => intro _; tm_at "ty"))
  | ((with_reducible refine' ty_notV ?h1); (case h1 => tm_at "ty"))
  | ((with_reducible refine' ty_chain ?h1 ?h2 ?h3 ?h4 ?h5); (case h1 => tm_at "ty"); (case h2 => tm_at "ty"); (case h3 => tm_at "op"); (case h4 => intro _; tm_at "ty"); (case h5 => tm_at "op")))
local macro_rules | `(tactic| tm_at "tt") => `(tactic| first
  | ((with_reducible refine' tt_B ?h1); (case h1 => tm_at "ty"))
  | ((with_reducible refine' tt_test ?h1); (case h1 => tm_at "ty"))
  | ((with_reducible refine' tt_notB ?h1); (case h1 => tm_at "tt"))
  | ((with_reducible refine' tt_andB ?h1 ?h2); (case h1 => tm_at "tt"); (case h2 => intro _; tm_at "tt"))
  | ((with_reducible refine' tt_orB ?h1 ?h2); (case h1 => tm_at "tt"); (case h2 => intro _; tm_at "tt")))
local macro_rules | `(tactic| tm_at "tyis") => `(tactic| (refine' Ty.is ?h1 ?h2; (case h1 => tm_at "ty"); (case h2 => rfl)))
local macro_rules | `(tactic| tm_at "ttis") => `(tactic| (refine' Tt.is ?h1 ?h2; (case h1 => tm_at "tt"); (case h2 => rfl)))
local macro_rules | `(tactic| tm_at "tyad") => `(tactic| (refine' TyA.data ?h1 ?h2; (case h1 => tm_at "tya"); (case h2 => rfl)))
/-! ### plain: rests put together -/
abbrev RP := Int × Int
def gI (a b : Int) : Int := (Int.gcd a b : Nat)
def mI (a b : Int) : Int := a / gI a b * b
theorem bezN (a b : Nat) : ∃ x y : Int, (Nat.gcd a b : Int) = a * x + b * y := by
  induction a, b using Nat.gcd.induction with
  | H0 n => exact ⟨0, 1, by simp⟩
  | H1 m n h ih =>
    obtain ⟨x, y, e⟩ := ih
    refine ⟨y - (n / m : Nat) * x, x, ?_⟩
    rw [Nat.gcd_rec, e]
    have q : (n : Int) = m * (n / m : Nat) + (n % m : Nat) := by
      have := Nat.div_add_mod n m
      exact_mod_cast this.symm
    generalize ((n / m : Nat) : Int) = c at *
    generalize ((n % m : Nat) : Int) = r at *
    rw [q]; grind
theorem gI_bez (a b : Int) : ∃ x y, gI a b = a * x + b * y := by
  obtain ⟨x, y, e⟩ := bezN a.natAbs b.natAbs
  have q : ∀ z : Int, ∃ s : Int, (z.natAbs : Int) = z * s := fun z => by
    rcases Int.natAbs_eq z with h | h
    · exact ⟨1, by omega⟩
    · exact ⟨-1, by omega⟩
  obtain ⟨s, hs⟩ := q a
  obtain ⟨t, ht⟩ := q b
  refine ⟨s * x, t * y, ?_⟩
  show ((Nat.gcd a.natAbs b.natAbs : Nat) : Int) = _
  rw [e, hs, ht]; grind
theorem gI_l (a b : Int) : gI a b ∣ a := Int.gcd_dvd_left ..
theorem gI_r (a b : Int) : gI a b ∣ b := Int.gcd_dvd_right ..
theorem gI_pos {a b : Int} (h : 0 < a) : 0 < gI a b := by
  have : 0 < Int.gcd a b := Int.gcd_pos_of_ne_zero_left b (by omega)
  unfold gI; omega
theorem gI_comm (a b : Int) : gI a b = gI b a := by unfold gI; rw [Int.gcd_comm]
theorem gI_dvd {a b d : Int} (h : d ∣ a) (k : d ∣ b) : d ∣ gI a b := by
  obtain ⟨x, y, e⟩ := gI_bez a b
  rw [e]
  exact Int.dvd_add (Int.dvd_trans h (Int.dvd_mul_right ..)) (Int.dvd_trans k (Int.dvd_mul_right ..))
theorem gI_unique {a b d : Int} (h0 : 0 ≤ d) (h1 : d ∣ a) (h2 : d ∣ b) (h3 : gI a b ∣ d) : d = gI a b := Int.dvd_antisymm h0 (by unfold gI; omega) (gI_dvd h1 h2) h3
/-- a and b by their divisor -/
theorem gI_parts {a b : Int} (ha : 0 < a) : ∃ k l, a = gI a b * k ∧ b = gI a b * l ∧ a / gI a b = k ∧ b / gI a b = l ∧ mI a b = gI a b * k * l ∧ 0 < gI a b ∧ 0 < k := by
  obtain ⟨k, hk⟩ := gI_l a b
  obtain ⟨l, hl⟩ := gI_r a b
  have g := gI_pos (b := b) ha
  have e1 : a / gI a b = k := by
    have z : gI a b * k / gI a b = k := Int.mul_ediv_cancel_left _ (by omega)
    rw [← hk] at z; exact z
  have e2 : b / gI a b = l := by
    have z : gI a b * l / gI a b = l := Int.mul_ediv_cancel_left _ (by omega)
    rw [← hl] at z; exact z
  refine ⟨k, l, hk, hl, e1, e2, ?_, g, ?_⟩
  · unfold mI; rw [e1]
    generalize gI a b = g at *
    rw [hl]; grind
  · by_cases z : 0 < k
    · exact z
    · have : gI a b * k ≤ 0 := Int.mul_nonpos_of_nonneg_of_nonpos (by omega) (by omega)
      omega
theorem mI_l {a b : Int} (ha : 0 < a) : a ∣ mI a b := by
  obtain ⟨k, l, h1, h2, _, _, h5, _⟩ := gI_parts (b := b) ha
  exact ⟨l, by rw [h5]; rw [← h1]⟩
theorem mI_r (a b : Int) : b ∣ mI a b := ⟨a / gI a b, by unfold mI; rw [Int.mul_comm]⟩
theorem mI_mul {a b : Int} (ha : 0 < a) : mI a b * gI a b = a * b := by
  obtain ⟨k, l, h1, h2, _, _, h5, _⟩ := gI_parts (b := b) ha
  rw [h5]
  generalize gI a b = g at *
  subst h1; subst h2; grind
theorem mI_pos {a b : Int} (ha : 0 < a) (hb : 0 < b) : 0 < mI a b := by
  obtain ⟨k, l, h1, h2, _, _, h5, g, hk⟩ := gI_parts (b := b) ha
  have hl : 0 < l := by
    by_cases z : 0 < l
    · exact z
    · have : gI a b * l ≤ 0 := Int.mul_nonpos_of_nonneg_of_nonpos (by omega) (by omega)
      omega
  rw [h5]
  exact Int.mul_pos (Int.mul_pos g hk) hl
/-- what both divide, their multiple divides -/
theorem mI_dvd {a b z : Int} (ha : 0 < a) (h : a ∣ z) (k : b ∣ z) : mI a b ∣ z := by
  obtain ⟨i, hi⟩ := h
  obtain ⟨j, hj⟩ := k
  obtain ⟨x, y, e⟩ := gI_bez a b
  have m := mI_mul (b := b) ha
  have g := gI_pos (b := b) ha
  have q : gI a b * mI a b ∣ gI a b * z := by
    refine ⟨i * y + j * x, ?_⟩
    rw [Int.mul_comm (gI a b) (mI a b), m]
    rw [e]
    have e1 : (a * x + b * y) * z = x * (a * z) + y * (b * z) := by grind
    rw [e1]
    conv => lhs; rw [hj]
    have : b * j = a * i := by rw [← hi, ← hj]
    grind
  exact Int.dvd_of_mul_dvd_mul_left (by omega) q
/-- a common divisor of c and the multiple divides what gcd(a, c) and gcd(b, c) do -/
theorem gI_lcm {a b c z : Int} (ha : 0 < a) (hc : 0 < c) (h1 : gI a c ∣ z) (h2 : gI b c ∣ z) : gI (mI a b) c ∣ z := by
  obtain ⟨x1, y1, e1⟩ := gI_bez a c
  obtain ⟨x2, y2, e2⟩ := gI_bez b c
  obtain ⟨s, t, ed⟩ := gI_bez (gI a c) (gI b c)
  have dp : 0 < gI (gI a c) (gI b c) := gI_pos (gI_pos ha)
  have da : gI (gI a c) (gI b c) ∣ a := Int.dvd_trans (gI_l ..) (gI_l ..)
  have db : gI (gI a c) (gI b c) ∣ b := Int.dvd_trans (gI_r ..) (gI_l ..)
  have dc : gI (gI a c) (gI b c) ∣ c := Int.dvd_trans (gI_l ..) (gI_r ..)
  have dg := gI_dvd da db
  have em : gI (mI a b) c ∣ mI a b := gI_l ..
  have ec : gI (mI a b) c ∣ c := gI_r ..
  have m := mI_mul (b := b) ha
  obtain ⟨u, hu⟩ := h1
  obtain ⟨v, hv⟩ := h2
  generalize gI (gI a c) (gI b c) = d at *
  generalize gI (mI a b) c = e at *
  generalize mI a b = M at *
  generalize gI a b = g at *
  generalize gI a c = G1 at *
  generalize gI b c = G2 at *
  have f1 : e * d ∣ a * b := by rw [← m]; exact Int.mul_dvd_mul em dg
  have f2 : e * d ∣ a * c := by rw [Int.mul_comm a c]; exact Int.mul_dvd_mul ec da
  have f3 : e * d ∣ c * b := Int.mul_dvd_mul ec db
  have f4 : e * d ∣ c * c := Int.mul_dvd_mul ec dc
  have f5 : e * d ∣ G1 * G2 := by
    have q : G1 * G2 = (a * b) * (x1 * x2) + ((a * c) * (x1 * y2) + ((c * b) * (y1 * x2) + (c * c) * (y1 * y2))) := by rw [e1, e2]; grind
    rw [q]
    exact Int.dvd_add (Int.dvd_mul_of_dvd_left f1) (Int.dvd_add (Int.dvd_mul_of_dvd_left f2) (Int.dvd_add (Int.dvd_mul_of_dvd_left f3) (Int.dvd_mul_of_dvd_left f4)))
  have f6 : e * d ∣ z * d := by
    have q : z * d = (G1 * G2) * (v * s + u * t) := by
      rw [ed]
      have a1 : z * (G1 * s + G2 * t) = G1 * s * z + G2 * t * z := by grind
      rw [a1]
      have a2 : G1 * s * z = G1 * s * (G2 * v) := by rw [← hv]
      have a3 : G2 * t * z = G2 * t * (G1 * u) := by rw [← hu]
      rw [a2, a3]; grind
    rw [q]
    exact Int.dvd_mul_of_dvd_left f5
  exact Int.dvd_of_mul_dvd_mul_right (by omega) f6
/-! ### two rests -/
def meetB (p q : RP) : Bool := decide ((q.1 - p.1) % gI p.2 q.2 = 0)
theorem meet_iff {p q : RP} : meetB p q = true ↔ gI p.2 q.2 ∣ q.1 - p.1 := by
  unfold meetB
  rw [decide_eq_true_iff]
  exact ⟨Int.dvd_of_emod_eq_zero, Int.emod_eq_zero_of_dvd⟩
theorem meet_flip {p q : RP} : meetB p q = decide ((p.1 - q.1) % gI p.2 q.2 = 0) := by
  unfold meetB
  have e : (q.1 - p.1) % gI p.2 q.2 = 0 ↔ (p.1 - q.1) % gI p.2 q.2 = 0 := by
    constructor
    · intro h
      have := Int.dvd_of_emod_eq_zero h
      exact Int.emod_eq_zero_of_dvd (by rw [← Int.neg_sub]; exact Int.dvd_neg.mpr this)
    · intro h
      have := Int.dvd_of_emod_eq_zero h
      exact Int.emod_eq_zero_of_dvd (by rw [← Int.neg_sub]; exact Int.dvd_neg.mpr this)
  exact decide_eq_decide.mpr e
theorem meet_comm (p q : RP) : meetB p q = meetB q p := by
  rw [meet_flip]; unfold meetB; rw [gI_comm]
structure Crt (p q r : RP) : Prop where
  m : r.2 = mI p.2 q.2
  lo : 0 ≤ r.1
  hi : r.1 < r.2
  a : p.2 ∣ r.1 - p.1
  b : q.2 ∣ r.1 - q.1
noncomputable def crt (p q : RP) : RP := open Classical in if h : ∃ r, Crt p q r then Classical.choose h else (0, 1)
theorem crt_eq {p q r : RP} (hp : 0 < p.2) (h : Crt p q r) : crt p q = r := by
  have e : ∃ r, Crt p q r := ⟨r, h⟩
  have k : Crt p q (crt p q) := by
    unfold crt
    rw [dif_pos e]
    exact Classical.choose_spec e
  have m : (crt p q).2 = r.2 := k.m.trans h.m.symm
  have d : r.2 ∣ (crt p q).1 - r.1 := by
    rw [h.m]
    refine mI_dvd hp ?_ ?_
    · have z := Int.dvd_sub k.a h.a
      have e : (crt p q).1 - p.1 - (r.1 - p.1) = (crt p q).1 - r.1 := by omega
      rwa [e] at z
    · have z := Int.dvd_sub k.b h.b
      have e : (crt p q).1 - q.1 - (r.1 - q.1) = (crt p q).1 - r.1 := by omega
      rwa [e] at z
  have z : (crt p q).1 = r.1 := by
    obtain ⟨c, hc⟩ := d
    have h1 := k.lo
    have h2 := k.hi
    have h3 := h.lo
    have h4 := h.hi
    rw [m] at h2
    by_cases c0 : c = 0
    · rw [c0] at hc; omega
    · exfalso
      rcases Int.lt_or_lt_of_ne c0 with c1 | c1
      · have : r.2 * c ≤ r.2 * (-1) := Int.mul_le_mul_of_nonneg_left (by omega) (by omega)
        omega
      · have : r.2 * 1 ≤ r.2 * c := Int.mul_le_mul_of_nonneg_left (by omega) (by omega)
        omega
  exact Prod.ext z m
/-- a number with both rests gives it -/
theorem crt_of {p q : RP} {v M : Int} (hp : 0 < p.2) (hq : 0 < q.2) (hM : M = mI p.2 q.2) (h1 : p.2 ∣ v - p.1) (h2 : q.2 ∣ v - q.1) : crt p q = (v % M, M) := by
  have pos := mI_pos hp hq
  subst hM
  have d : mI p.2 q.2 ∣ v % mI p.2 q.2 - v := by
    refine ⟨-(v / mI p.2 q.2), ?_⟩
    have := Int.mul_ediv_add_emod v (mI p.2 q.2)
    rw [Int.mul_neg]
    omega
  refine crt_eq hp ⟨rfl, Int.emod_nonneg _ (by omega), Int.emod_lt_of_pos _ pos, ?_, ?_⟩
  · have z := Int.dvd_add (Int.dvd_trans (mI_l (b := q.2) hp) d) h1
    have e : v % mI p.2 q.2 - v + (v - p.1) = v % mI p.2 q.2 - p.1 := by omega
    rwa [e] at z
  · have z := Int.dvd_add (Int.dvd_trans (mI_r p.2 q.2) d) h2
    have e : v % mI p.2 q.2 - v + (v - q.1) = v % mI p.2 q.2 - q.1 := by omega
    rwa [e] at z
/-- x is a share of one: it takes the divisor from it modulo other -/
def Share (one other x : Int) : Prop := ∃ y, gI one other = one * x + other * y
theorem crt_prog {p q : RP} {x : Int} (hp : 0 < p.2) (hq : 0 < q.2) (h : meetB p q = true) (hx : Share p.2 q.2 x) : crt p q = ((p.1 + (q.1 - p.1) / gI p.2 q.2 * x * p.2) % (p.2 / gI p.2 q.2 * q.2), p.2 / gI p.2 q.2 * q.2) := by
  obtain ⟨y, hy⟩ := hx
  have g := gI_pos (b := q.2) hp
  obtain ⟨k, hk⟩ := meet_iff.mp h
  have e : (q.1 - p.1) / gI p.2 q.2 = k := by rw [hk]; exact Int.mul_ediv_cancel_left _ (by omega)
  refine crt_of hp hq rfl ⟨k * x, by rw [e]; grind⟩ ⟨-(k * y), ?_⟩
  rw [e]
  have : q.1 = p.1 + gI p.2 q.2 * k := by omega
  rw [this, hy]; grind
theorem crt_law {p q : RP} {x : Int} (hp : 0 < p.2) (hq : 0 < q.2) (h : meetB p q = true) (hx : Share p.2 q.2 x) : crt p q = ((p.1 + p.2 * ((q.1 - p.1) / gI p.2 q.2 * x % (q.2 / gI p.2 q.2))) % (p.2 * (q.2 / gI p.2 q.2)), p.2 * (q.2 / gI p.2 q.2)) := by
  obtain ⟨y, hy⟩ := hx
  obtain ⟨c, d, h1, h2, h3, h4, h5, g, _⟩ := gI_parts (b := q.2) hp
  obtain ⟨k, hk⟩ := meet_iff.mp h
  have e : (q.1 - p.1) / gI p.2 q.2 = k := by rw [hk]; exact Int.mul_ediv_cancel_left _ (by omega)
  rw [e, h4]
  have f := Int.mul_ediv_add_emod (k * x) d
  refine crt_of hp hq ?_ ⟨k * x % d, by omega⟩ ⟨-(k * y) - c * (k * x / d), ?_⟩
  · rw [h5]
    generalize gI p.2 q.2 = G at *
    rw [h1]
  · have w : q.1 = p.1 + gI p.2 q.2 * k := by omega
    have f' : k * x % d = k * x - d * (k * x / d) := by omega
    rw [f', w]
    generalize k * x / d = t at *
    have a : p.1 + p.2 * (k * x - d * t) - (p.1 + gI p.2 q.2 * k) = k * (p.2 * x) - gI p.2 q.2 * k - p.2 * d * t := by grind
    rw [a]
    have b : p.2 * x = gI p.2 q.2 - q.2 * y := by omega
    rw [b]
    generalize gI p.2 q.2 = G at *
    have cc : p.2 * d = q.2 * c := by rw [h1, h2]; grind
    rw [cc]; grind
theorem share_ex (a b : Int) : ∃ x, Share a b x := by
  obtain ⟨x, y, e⟩ := gI_bez a b
  exact ⟨x, y, e⟩
theorem crt_ok {p q : RP} (hp : 0 < p.2) (hq : 0 < q.2) (h : meetB p q = true) : Crt p q (crt p q) := by
  obtain ⟨x, y, hy⟩ := share_ex p.2 q.2
  have g := gI_pos (b := q.2) hp
  obtain ⟨k, hk⟩ := meet_iff.mp h
  have e := crt_of (p := p) (q := q) (v := p.1 + k * x * p.2) hp hq rfl ⟨k * x, by grind⟩ ⟨-(k * y), by
    have : q.1 = p.1 + gI p.2 q.2 * k := by omega
    rw [this, hy]; grind⟩
  have pos := mI_pos hp hq
  have d : mI p.2 q.2 ∣ (p.1 + k * x * p.2) % mI p.2 q.2 - (p.1 + k * x * p.2) := by
    refine ⟨-((p.1 + k * x * p.2) / mI p.2 q.2), ?_⟩
    have := Int.mul_ediv_add_emod (p.1 + k * x * p.2) (mI p.2 q.2)
    rw [Int.mul_neg]
    omega
  rw [e]
  refine ⟨rfl, Int.emod_nonneg _ (by omega), Int.emod_lt_of_pos _ pos, ?_, ?_⟩
  · have z := Int.dvd_add (Int.dvd_trans (mI_l (b := q.2) hp) d) (⟨k * x, by grind⟩ : p.2 ∣ p.1 + k * x * p.2 - p.1)
    have e : ((p.1 + k * x * p.2) % mI p.2 q.2 - (p.1 + k * x * p.2)) + (p.1 + k * x * p.2 - p.1) = (p.1 + k * x * p.2) % mI p.2 q.2 - p.1 := by omega
    rwa [e] at z
  · have z := Int.dvd_add (Int.dvd_trans (mI_r p.2 q.2) d) (⟨-(k * y), by
      have : q.1 = p.1 + gI p.2 q.2 * k := by omega
      rw [this, hy]; grind⟩ : q.2 ∣ p.1 + k * x * p.2 - q.1)
    have e : ((p.1 + k * x * p.2) % mI p.2 q.2 - (p.1 + k * x * p.2)) + (p.1 + k * x * p.2 - q.1) = (p.1 + k * x * p.2) % mI p.2 q.2 - q.1 := by omega
    rwa [e] at z
/-! ### many rests -/
noncomputable def joinF : RP → List RP → Option RP
  | f, [] => some f
  | f, p :: r => if meetB f p = true then joinF (crt f p) r else none
noncomputable def joinI (l : List RP) : Option RP := joinF (0, 1) l
/-- f stands for the rests ahead -/
structure Rep (f : RP) (pre : List RP) : Prop where
  pos : 0 < f.2
  lo : 0 ≤ f.1
  hi : f.1 < f.2
  m : ∀ p ∈ pre, p.2 ∣ f.2
  r : ∀ p ∈ pre, p.2 ∣ f.1 - p.1
  q : ∀ q : RP, 0 < q.2 → (∀ p ∈ pre, meetB p q = true) → meetB f q = true
  l : ∀ L : Int, (∀ p ∈ pre, p.2 ∣ L) → f.2 ∣ L
theorem rep_nil : Rep (0, 1) [] := by
  refine ⟨by decide, by decide, by decide, fun _ z => by simp at z, fun _ z => by simp at z, fun q _ _ => ?_, fun L _ => Int.one_dvd _⟩
  refine meet_iff.mpr ?_
  have e : gI 1 q.2 = 1 := by unfold gI; simp
  show gI 1 q.2 ∣ _
  rw [e]; exact Int.one_dvd _
theorem Rep.add {f p : RP} {pre : List RP} (R : Rep f pre) (hp : 0 < p.2) (h : meetB f p = true) : Rep (crt f p) (pre ++ [p]) := by
  have C := crt_ok R.pos hp h
  have fm : f.2 ∣ (crt f p).2 := by rw [C.m]; exact mI_l R.pos
  have pm : p.2 ∣ (crt f p).2 := by rw [C.m]; exact mI_r ..
  refine ⟨by rw [C.m]; exact mI_pos R.pos hp, C.lo, C.hi, fun z hz => ?_, fun z hz => ?_, fun z hz hm => ?_, fun L hL => ?_⟩
  · rcases List.mem_append.mp hz with hz | hz
    · exact Int.dvd_trans (R.m z hz) fm
    · rw [List.mem_singleton.mp hz]; exact pm
  · rcases List.mem_append.mp hz with hz | hz
    · have a := Int.dvd_add (Int.dvd_trans (R.m z hz) C.a) (R.r z hz)
      have e : (crt f p).1 - f.1 + (f.1 - z.1) = (crt f p).1 - z.1 := by omega
      rwa [e] at a
    · rw [List.mem_singleton.mp hz]; exact C.b
  · refine meet_iff.mpr ?_
    rw [C.m]
    refine gI_lcm R.pos hz ?_ ?_
    · have a := meet_iff.mp (R.q z hz fun w hw => hm w (List.mem_append_left _ hw))
      have b := Int.dvd_trans (gI_l f.2 z.2) C.a
      have c := Int.dvd_sub a b
      have e : z.1 - f.1 - ((crt f p).1 - f.1) = z.1 - (crt f p).1 := by omega
      rwa [e] at c
    · have a := meet_iff.mp (hm p (List.mem_append_right _ (List.mem_singleton.mpr rfl)))
      have b := Int.dvd_trans (gI_l p.2 z.2) C.b
      have c := Int.dvd_sub a b
      have e : z.1 - p.1 - ((crt f p).1 - p.1) = z.1 - (crt f p).1 := by omega
      rwa [e] at c
  · rw [C.m]
    exact mI_dvd R.pos (R.l L fun w hw => hL w (List.mem_append_left _ hw)) (hL p (List.mem_append_right _ (List.mem_singleton.mpr rfl)))
theorem join_some : ∀ {l pre : List RP} {f r : RP}, Rep f pre → (∀ p ∈ l, 0 < p.2) → joinF f l = some r → Rep r (pre ++ l)
  | [], pre, f, r, R, _, h => by
    obtain rfl : f = r := by simpa [joinF] using h
    rw [List.append_nil]; exact R
  | p :: l, pre, f, r, R, hp, h => by
    unfold joinF at h
    by_cases c : meetB f p = true
    · rw [if_pos c] at h
      have z := join_some (R.add (hp p (List.mem_cons_self ..)) c) (fun q hq => hp q (List.mem_cons_of_mem _ hq)) h
      rw [List.append_assoc] at z
      exact z
    · rw [if_neg c] at h; cases h
theorem join_none : ∀ {l pre : List RP} {f : RP}, Rep f pre → (∀ p ∈ l, 0 < p.2) → joinF f l = none → ∃ (i j : Nat) (p q : RP), i < j ∧ (pre ++ l)[i]? = some p ∧ (pre ++ l)[j]? = some q ∧ meetB p q = false
  | [], pre, f, R, _, h => by simp [joinF] at h
  | p :: l, pre, f, R, hp, h => by
    unfold joinF at h
    by_cases c : meetB f p = true
    · rw [if_pos c] at h
      have z := join_none (R.add (hp p (List.mem_cons_self ..)) c) (fun q hq => hp q (List.mem_cons_of_mem _ hq)) h
      rw [List.append_assoc] at z
      exact z
    · have : ∃ w, w ∈ pre ∧ meetB w p = false := by
        refine Classical.byContradiction fun n => c (R.q p (hp p (List.mem_cons_self ..)) fun w hw => ?_)
        cases e : meetB w p with
        | true => rfl
        | false => exact absurd ⟨w, hw, e⟩ n
      obtain ⟨w, hw, e⟩ := this
      obtain ⟨i, hi, ei⟩ := List.getElem_of_mem hw
      refine ⟨i, pre.length, w, p, hi, ?_, ?_, e⟩
      · rw [List.getElem?_append_left hi, List.getElem?_eq_getElem hi, ei]
      · rw [List.getElem?_append_right (Nat.le_refl _), Nat.sub_self]; rfl
/-- the first pair, by its second index -/
def pairs (l : List RP) (i j : Nat) : Bool := meetB (l.getD i (0, 1)) (l.getD j (0, 1))
def clashJ (l : List RP) (j : Nat) : Option Nat := (List.range j).find? fun i => !pairs l i j
def clashI (l : List RP) : Option (Nat × Nat) := (List.range l.length).findSome? fun j => (clashJ l j).map fun i => (i, j)
theorem find_range {f : Nat → Bool} {n i : Nat} (hi : i < n) (h : f i = true) (k : ∀ j, j < i → f j = false) : (List.range n).find? f = some i := by
  rw [List.find?_eq_some_iff_getElem]
  refine ⟨h, i, by simpa using hi, by simp, fun j hj => ?_⟩
  simp [k j hj]
theorem clashJ_some {l : List RP} {i j : Nat} (hi : i < j) (h : pairs l i j = false) (k : ∀ i', i' < i → pairs l i' j = true) : clashJ l j = some i :=
  find_range hi (by rw [h]; rfl) fun i' hi' => by rw [k i' hi']; rfl
theorem clashJ_none {l : List RP} {j : Nat} : clashJ l j = none ↔ ∀ i, i < j → pairs l i j = true := by
  unfold clashJ
  rw [List.find?_eq_none]
  constructor
  · intro h i hi
    have z := h i (List.mem_range.mpr hi)
    simpa using z
  · intro h i hi
    simp [h i (List.mem_range.mp hi)]
theorem clash_some {l : List RP} {i j : Nat} (hj : j < l.length) (h : clashJ l j = some i) (k : ∀ j', j' < j → clashJ l j' = none) : clashI l = some (i, j) := by
  have z : ∀ (n m : Nat), (∀ j', j' < m → clashJ l j' = none) → m < n → clashJ l m = some i → (List.range n).findSome? (fun j => (clashJ l j).map fun i => (i, j)) = some (i, m) := by
    intro n m k hm h
    rw [List.findSome?_eq_some_iff]
    refine ⟨List.range m, m, (List.range' (m + 1) (n - m - 1)), ?_, by rw [h]; rfl, fun a ha => by rw [k a (List.mem_range.mp ha)]; rfl⟩
    rw [List.range_eq_range', List.range_eq_range']
    have e : n = m + (1 + (n - m - 1)) := by omega
    conv => lhs; rw [e]
    rw [← List.range'_append_1, Nat.zero_add, Nat.add_comm 1, List.range'_succ]
  exact z l.length j k hj h
theorem clash_none {l : List RP} : clashI l = none ↔ ∀ j, j < l.length → clashJ l j = none := by
  unfold clashI
  rw [List.findSome?_eq_none_iff]
  constructor
  · intro h j hj
    have z := h j (List.mem_range.mpr hj)
    simpa using z
  · intro h j hj
    rw [h j (List.mem_range.mp hj)]; rfl
theorem join_clash {l : List RP} (hl : ∀ p ∈ l, 0 < p.2) : (joinI l).isNone = (clashI l).isSome := by
  cases hj : joinI l with
  | some r =>
    have R := join_some rep_nil hl hj
    rw [List.nil_append] at R
    have : clashI l = none := clash_none.mpr fun j hj => clashJ_none.mpr fun i hi => by
      have i1 : i < l.length := by omega
      have m1 := R.r _ (List.getElem_mem i1)
      have m2 := R.r _ (List.getElem_mem hj)
      unfold pairs
      rw [List.getD_eq_getElem?_getD, List.getD_eq_getElem?_getD, List.getElem?_eq_getElem i1, List.getElem?_eq_getElem hj]
      refine meet_iff.mpr ?_
      show gI l[i].2 l[j].2 ∣ l[j].1 - l[i].1
      have a := Int.dvd_trans (gI_l l[i].2 l[j].2) m1
      have b := Int.dvd_trans (gI_r l[i].2 l[j].2) m2
      have c := Int.dvd_sub a b
      have e : r.1 - l[i].1 - (r.1 - l[j].1) = l[j].1 - l[i].1 := by omega
      rwa [e] at c
    rw [this]; rfl
  | none =>
    obtain ⟨i, j, p, q, hi, e1, e2, h⟩ := join_none rep_nil hl hj
    rw [List.nil_append] at e1 e2
    have hj' : j < l.length := (List.getElem?_eq_some_iff.mp e2).1
    have : clashI l ≠ none := fun z => by
      have w := clashJ_none.mp (clash_none.mp z j hj') i hi
      unfold pairs at w
      rw [List.getD_eq_getElem?_getD, List.getD_eq_getElem?_getD, e1, e2] at w
      have w' : meetB p q = true := w
      rw [h] at w'; cases w'
    cases hc : clashI l with
    | none => exact absurd hc this
    | some _ => rfl
/-- the numbers with a rest, to a bound -/
def firstI (f : RP) (b : Int) : Int := f.1 - (f.1 + b) / f.2 * f.2
def manyI (f : RP) (b : Int) : Int := (b - firstI f b) / f.2 + 1
def numsI (f : RP) (b : Int) : List Int := (List.range (manyI f b).toNat).map fun t : Nat => firstI f b + (t : Int) * f.2
theorem many_lo {f : RP} {b : Int} (hf : 0 < f.2) (hb : 0 ≤ b) : 0 ≤ manyI f b ∧ (b < firstI f b → manyI f b = 0) := by
  unfold manyI
  have e := Int.emod_add_mul_ediv (f.1 + b) f.2
  have h1 := Int.emod_nonneg (f.1 + b) (show f.2 ≠ 0 by omega)
  have h2 := Int.emod_lt_of_pos (f.1 + b) hf
  have q : firstI f b = (f.1 + b) % f.2 - b := by unfold firstI; rw [Int.mul_comm] at e; omega
  have k := Int.emod_add_mul_ediv (b - firstI f b) f.2
  have k1 := Int.emod_nonneg (b - firstI f b) (show f.2 ≠ 0 by omega)
  have k2 := Int.emod_lt_of_pos (b - firstI f b) hf
  have lo : -f.2 < b - firstI f b := by omega
  generalize (b - firstI f b) / f.2 = d at *
  constructor
  · by_cases c : 0 ≤ d + 1
    · exact c
    · have : f.2 * d ≤ f.2 * (-2) := Int.mul_le_mul_of_nonneg_left (by omega) (by omega)
      omega
  · intro z
    by_cases c : d = -1
    · omega
    · exfalso
      by_cases c2 : 0 ≤ d
      · have : 0 ≤ f.2 * d := Int.mul_nonneg (by omega) c2
        omega
      · have : f.2 * d ≤ f.2 * (-2) := Int.mul_le_mul_of_nonneg_left (by omega) (by omega)
        omega
/-! ### the walk of divisors -/
structure EucG (one other r0 r1 : Int) : Prop where
  p0 : 0 < r0
  p1 : 0 ≤ r1
  g : gI r0 r1 = gI one other
  s0 : r0 ≤ one + other
  s1 : r1 ≤ one + other
structure EucB (m r0 x0 r1 x1 : Int) : Prop where
  b : r0 * (x1.natAbs : Int) + r1 * (x0.natAbs : Int) ≤ m
  b0 : (x0.natAbs : Int) ≤ m
  b1 : (x1.natAbs : Int) ≤ m
theorem gI_step (a b : Int) : gI b (a - a / b * b) = gI a b := by
  unfold gI
  rw [Int.gcd_sub_mul_right_right, Int.gcd_comm]
theorem gI_mod (a b : Int) : gI b (a % b) = gI a b := by
  have e : a % b = a - a / b * b := by
    have := Int.emod_add_mul_ediv a b
    rw [Int.mul_comm (a / b) b]
    omega
  rw [e]; exact gI_step a b
theorem gI_zero {a : Int} (h : 0 ≤ a) : gI a 0 = a := by unfold gI; simp; omega
theorem EucG.start {one other : Int} (h1 : 0 < one) (h2 : 0 < other) : EucG one other one other := ⟨h1, by omega, rfl, by omega, by omega⟩
theorem quo {r0 r1 : Int} (h0 : 0 < r0) (h1 : 0 < r1) : 0 ≤ r0 / r1 ∧ r0 / r1 ≤ r0 ∧ 0 ≤ r0 - r0 / r1 * r1 ∧ r0 - r0 / r1 * r1 < r1 := by
  have e := Int.emod_add_mul_ediv r0 r1
  have k1 := Int.emod_nonneg r0 (show r1 ≠ 0 by omega)
  have k2 := Int.emod_lt_of_pos r0 h1
  have k3 : 0 ≤ r0 / r1 := Int.ediv_nonneg (by omega) (by omega)
  have k4 : r0 / r1 ≤ r0 := Int.ediv_le_self _ (by omega)
  rw [Int.mul_comm r1] at e
  exact ⟨k3, k4, by omega, by omega⟩
theorem EucG.step {one other r0 r1 : Int} (G : EucG one other r0 r1) (h : 0 < r1) : EucG one other r1 (r0 - r0 / r1 * r1) := by
  obtain ⟨k1, k2, k3, k4⟩ := quo G.p0 h
  exact ⟨h, k3, by rw [gI_step]; exact G.g, G.s1, by have := G.s1; omega⟩
theorem euc_core {m r0 r1 c a0 a1 a2 : Int} (b : r0 * a1 + r1 * a0 ≤ m) (t : a2 ≤ a0 + c * a1) (h : 0 < r1) (k3 : 0 ≤ r0 - c * r1) (n1 : 0 ≤ a1) (nn : 0 ≤ a2) : r1 * a2 + (r0 - c * r1) * a1 ≤ m ∧ a2 ≤ m := by
  have u : r1 * a2 ≤ r1 * (a0 + c * a1) := Int.mul_le_mul_of_nonneg_left t (by omega)
  have w : r1 * a2 + (r0 - c * r1) * a1 ≤ m := by
    have e : r1 * (a0 + c * a1) + (r0 - c * r1) * a1 = r0 * a1 + r1 * a0 := by grind
    omega
  refine ⟨w, ?_⟩
  have v : 0 ≤ (r0 - c * r1) * a1 := Int.mul_nonneg k3 n1
  have y : 1 * a2 ≤ r1 * a2 := Int.mul_le_mul_of_nonneg_right (by omega) nn
  omega
theorem EucB.step {m r0 x0 r1 x1 : Int} (B : EucB m r0 x0 r1 x1) (h0 : 0 < r0) (h : 0 < r1) : EucB m r1 x1 (r0 - r0 / r1 * r1) (x0 - r0 / r1 * x1) := by
  obtain ⟨k1, k2, k3, k4⟩ := quo h0 h
  have t : ((x0 - r0 / r1 * x1).natAbs : Int) ≤ (x0.natAbs : Int) + r0 / r1 * (x1.natAbs : Int) := by
    have z1 := Int.natAbs_sub_le x0 (r0 / r1 * x1)
    rw [Int.natAbs_mul] at z1
    have z2 : ((r0 / r1).natAbs : Int) = r0 / r1 := Int.natAbs_of_nonneg k1
    have z3 : ((x0 - r0 / r1 * x1).natAbs : Int) ≤ (x0.natAbs : Int) + ((r0 / r1).natAbs : Int) * (x1.natAbs : Int) := by exact_mod_cast z1
    rwa [z2] at z3
  obtain ⟨w1, w2⟩ := euc_core B.b t h k3 (by omega) (by omega)
  exact ⟨w1, B.b1, w2⟩
/-- r0 and x0 are made of one and other -/
def Lin (one other r x : Int) : Prop := ∃ y, r = one * x + other * y
theorem Lin.step {one other r0 x0 r1 x1 : Int} (h0 : Lin one other r0 x0) (h1 : Lin one other r1 x1) (c : Int) : Lin one other (r0 - c * r1) (x0 - c * x1) := by
  obtain ⟨y0, e0⟩ := h0
  obtain ⟨y1, e1⟩ := h1
  exact ⟨y0 - c * y1, by rw [e0, e1]; grind⟩
theorem share_end {one other r0 x0 : Int} (G : EucG one other r0 0) (h : Lin one other r0 x0) : r0 = gI one other ∧ Share one other x0 := by
  have e : r0 = gI one other := by rw [← G.g]; exact (gI_zero (by have := G.p0; omega)).symm
  exact ⟨e, by obtain ⟨y, hy⟩ := h; exact ⟨y, e.symm.trans hy⟩⟩
/-! ### data -/
def pairD (p : RP) : PyData := .tuple [.int p.1, .int p.2]
def seqD (b : Bool) (ds : List PyData) : PyData := if b = true then .tuple ds else .list ds
def restsD (b : Bool) (l : List RP) : PyData := seqD b (l.map pairD)
def optD : Option RP → PyData
  | none => .none
  | some p => pairD p
def isListD : PyData → Bool
  | .tuple _ => true
  | .list _ => true
  | _ => false
def itemOk : PyData → Bool
  | .tuple [.int _, .int m] => decide (1 ≤ m)
  | _ => false
def areRestsD : PyData → Bool
  | .tuple ds => decide (ds.length ≤ 40) && ds.all itemOk
  | .list ds => decide (ds.length ≤ 40) && ds.all itemOk
  | _ => false
theorem areRests_seq (b : Bool) (ds : List PyData) : areRestsD (seqD b ds) = (decide (ds.length ≤ 40) && ds.all itemOk) := by cases b <;> rfl
abbrev sq (v : Int) : Prop := bd 400 v
structure RestsOk (l : List RP) : Prop where
  n : l.length ≤ 40
  pos : ∀ p ∈ l, 0 < p.2
  b : ∀ p ∈ l, sq p.1
  L : ∃ L : Int, 0 < L ∧ sq L ∧ ∀ p ∈ l, p.2 ∣ L
noncomputable def jt (p q : RP) : Option RP := if meetB p q = true then some (crt p q) else none
section
variable {W : Wd} {Γ : Gam} {K : PySem.W.Frag} {te tb : TE} {b : Bool} {ds : List PyData} {d : PyData}
theorem ty_lenSeq (h : Ty W Γ te (dt K (seqD b ds))) : Ty W Γ (tCB (rLen K) (tCons te tNil)) (dt K (.int (ds.length : Nat))) := by
  cases b with
  | true => exact ty_cb (tya_cons h tya_nil) cbt_lenT
  | false => exact ty_cb (tya_cons h tya_nil) cbt_lenL
theorem tyi_seqD (h : Ty W Γ te (dt K (seqD b ds))) : TyI W Γ (iSeq K te) (ds.map (dt K)) := by
  cases b with
  | true => exact tyi_seqT (h.sub fun _ _ _ => data_tupT)
  | false => exact tyi_seqL (h.sub fun _ _ _ => data_lstT)
theorem opt_ixSeq {n : Nat} (e : ds[n]? = some d) : OpT W (rIx K) (dt K (seqD b ds)) (dt K (.int (n : Nat))) (dt K d) := by
  cases b with
  | true => exact opt_ixT (atI_nat e)
  | false => exact opt_ixL (atI_nat e)
theorem ty_p1 {p : RP} (h : Ty W Γ te (dt K (pairD p))) : Ty W Γ (tOp (rIx K) te (tC (.int 0))) (dt K (.int p.1)) := ty_op h ty_int (opt_ixT (i := 0) (d := .int p.1) (ds := [.int p.1, .int p.2]) (atI_nat (j := 0) rfl))
theorem ty_p2 {p : RP} (h : Ty W Γ te (dt K (pairD p))) : Ty W Γ (tOp (rIx K) te (tC (.int 1))) (dt K (.int p.2)) := ty_op h ty_int (opt_ixT (i := 1) (d := .int p.2) (ds := [.int p.1, .int p.2]) (atI_nat (j := 1) rfl))
end
theorem bnot1 {b : Bool} (z : true = !b) : b = false := by cases b <;> simp at z ⊢
theorem bnot0 {b : Bool} (z : false = !b) : b = true := by cases b <;> simp at z ⊢
theorem any_sub {W : Wd} {Γ : Gam} {te : TE} {T : Typ} {Ts : List Typ} (h : Ty W Γ te (anyT Ts)) (k : ∀ n, n < Ts.length → ∀ v H, (Ts.getD n (isV .non)).at W v H → T.at W v H) : Ty W Γ te T := h.sub fun v H _ ⟨n, hn, z⟩ => k n hn v H z
theorem rep_getD {T : Typ} {n m : Nat} (h : n < m) : (List.replicate m T).getD n (isV .non) = T := by
  rw [List.getD_eq_getElem?_getD, List.getElem?_replicate, if_pos h]; rfl
theorem map_const {α : Type} (T : Typ) : ∀ l : List α, l.map (fun _ => T) = List.replicate l.length T
  | [] => rfl
  | _ :: l => by rw [List.map_cons, map_const T l]; rfl
theorem tysv4 {M B : Addr → Prop} {A1 A2 A3 A4 : Typ} {us : List V} {H : Hp} (h : TysV M B [A1, A2, A3, A4] us H) : ∃ a b c d, us = [a, b, c, d] ∧ A1.p M B a H ∧ A2.p M B b H ∧ A3.p M B c H ∧ A4.p M B d H := by
  match us, h with
  | [a, b, c, d], h => exact ⟨a, b, c, d, rfl, h.1, h.2.1, h.2.2.1, h.2.2.2.1⟩
def top (i : Nat) : Stmt := PySem.Challenge.pw_everywrap_k02_rests_put_together.main.body.getD i (.Pass ⟨0, 0, 0, 0⟩)
abbrev s_is_whole : Stmt := top 8
abbrev s_is_list : Stmt := top 9
abbrev s_shared : Stmt := top 10
abbrev s_are_rests : Stmt := top 11
abbrev s_check_rests : Stmt := top 12
abbrev s_joined_two : Stmt := top 13
abbrev s_joined_in : Stmt := top 14
abbrev s_joined : Stmt := top 15
abbrev s_clash : Stmt := top 16
abbrev s_check_bound : Stmt := top 17
abbrev s_numbers_in : Stmt := top 18
abbrev s_numbers_with : Stmt := top 19
abbrev s_law_box : Stmt := top 21
abbrev s_law_take : Stmt := top 22
abbrev s_law_cell : Stmt := top 23
abbrev s_law_common : Stmt := top 24
abbrev s_law_same : Stmt := top 25
abbrev s_law_rests : Stmt := top 26
abbrev s_law_do_meet : Stmt := top 27
abbrev s_law_share : Stmt := top 28
abbrev s_law_step : Stmt := top 29
abbrev s_law_joined : Stmt := top 30
abbrev s_law_clash : Stmt := top 31
abbrev s_law_still : Stmt := top 32
abbrev s_law_call : Stmt := top 33
abbrev s_law_numbers : Stmt := top 34
abbrev s_law_refused_right : Stmt := top 35
abbrev s_law_scene_right : Stmt := top 36
abbrev s_law : Stmt := top 37
theorem sc_is_whole : FnScope ["value"] ["value"] (defScope s_is_whole) := ⟨rfl, rfl, rfl, by decide +kernel, rfl, by decide +kernel, by decide +kernel⟩
theorem sc_is_list : FnScope ["value"] ["value"] (defScope s_is_list) := ⟨rfl, rfl, rfl, by decide +kernel, rfl, by decide +kernel, by decide +kernel⟩
theorem sc_shared : FnScope ["one", "other", "rows", "count", "here", "there", "item"] ["one", "other"] (defScope s_shared) := ⟨rfl, rfl, rfl, by decide +kernel, rfl, by decide +kernel, by decide +kernel⟩
theorem sc_are_rests : FnScope ["value", "item"] ["value"] (defScope s_are_rests) := ⟨rfl, rfl, rfl, by decide +kernel, rfl, by decide +kernel, by decide +kernel⟩
theorem sc_check_rests : FnScope ["rests"] ["rests"] (defScope s_check_rests) := ⟨rfl, rfl, rfl, by decide +kernel, rfl, by decide +kernel, by decide +kernel⟩
theorem sc_joined_two : FnScope ["one", "other", "divisor", "share", "_", "modulus"] ["one", "other"] (defScope s_joined_two) := ⟨rfl, rfl, rfl, by decide +kernel, rfl, by decide +kernel, by decide +kernel⟩
theorem sc_joined_in : FnScope ["rests", "found", "item"] ["rests"] (defScope s_joined_in) := ⟨rfl, rfl, rfl, by decide +kernel, rfl, by decide +kernel, by decide +kernel⟩
theorem sc_joined : FnScope ["rests"] ["rests"] (defScope s_joined) := ⟨rfl, rfl, rfl, by decide +kernel, rfl, by decide +kernel, by decide +kernel⟩
theorem sc_clash : FnScope ["rests", "at", "here"] ["rests"] (defScope s_clash) := ⟨rfl, rfl, rfl, by decide +kernel, rfl, by decide +kernel, by decide +kernel⟩
theorem sc_check_bound : FnScope ["bound"] ["bound"] (defScope s_check_bound) := ⟨rfl, rfl, rfl, by decide +kernel, rfl, by decide +kernel, by decide +kernel⟩
theorem sc_numbers_in : FnScope ["found", "bound", "first", "many", "turn"] ["found", "bound"] (defScope s_numbers_in) := ⟨rfl, rfl, rfl, by decide +kernel, rfl, by decide +kernel, by decide +kernel⟩
theorem sc_numbers_with : FnScope ["rests", "bound", "found"] ["rests", "bound"] (defScope s_numbers_with) := ⟨rfl, rfl, rfl, by decide +kernel, rfl, by decide +kernel, by decide +kernel⟩
theorem sc_law_box : FnScope ["great"] ["great"] (defScope s_law_box) := ⟨rfl, rfl, rfl, by decide +kernel, rfl, by decide +kernel, by decide +kernel⟩
theorem sc_law_take : FnScope ["box", "many", "digit"] ["box", "many"] (defScope s_law_take) := ⟨rfl, rfl, rfl, by decide +kernel, rfl, by decide +kernel, by decide +kernel⟩
theorem sc_law_cell : FnScope ["script", "k"] ["script", "k"] (defScope s_law_cell) := ⟨rfl, rfl, rfl, by decide +kernel, rfl, by decide +kernel, by decide +kernel⟩
theorem sc_law_common : FnScope ["a", "b"] ["a", "b"] (defScope s_law_common) := ⟨rfl, rfl, rfl, by decide +kernel, rfl, by decide +kernel, by decide +kernel⟩
theorem sc_law_same : FnScope ["told", "due", "same", "k"] ["told", "due"] (defScope s_law_same) := ⟨rfl, rfl, rfl, by decide +kernel, rfl, by decide +kernel, by decide +kernel⟩
theorem sc_law_rests : FnScope ["box", "great", "number", "moduli", "many", "found", "k", "modulus", "turn", "at"] ["box"] (defScope s_law_rests) := ⟨rfl, rfl, rfl, by decide +kernel, rfl, by decide +kernel, by decide +kernel⟩
theorem sc_law_do_meet : FnScope ["one", "other"] ["one", "other"] (defScope s_law_do_meet) := ⟨rfl, rfl, rfl, by decide +kernel, rfl, by decide +kernel, by decide +kernel⟩
theorem sc_law_share : FnScope ["one", "other", "a", "b", "x", "y", "times"] ["one", "other"] (defScope s_law_share) := ⟨rfl, rfl, rfl, by decide +kernel, rfl, by decide +kernel, by decide +kernel⟩
theorem sc_law_step : FnScope ["one", "other", "d", "x", "wide", "steps", "modulus"] ["one", "other"] (defScope s_law_step) := ⟨rfl, rfl, rfl, by decide +kernel, rfl, by decide +kernel, by decide +kernel⟩
theorem sc_law_joined : FnScope ["rests", "found", "item"] ["rests"] (defScope s_law_joined) := ⟨rfl, rfl, rfl, by decide +kernel, rfl, by decide +kernel, by decide +kernel⟩
theorem sc_law_clash : FnScope ["rests", "j", "found", "i"] ["rests"] (defScope s_law_clash) := ⟨rfl, rfl, rfl, by decide +kernel, rfl, by decide +kernel, by decide +kernel⟩
theorem sc_law_still : FnScope ["told", "due", "key", "k"] ["told", "due"] (defScope s_law_still) := ⟨rfl, rfl, rfl, by decide +kernel, rfl, by decide +kernel, by decide +kernel⟩
theorem sc_law_call : FnScope ["which", "a", "named", "e"] ["which", "a", "named"] (defScope s_law_call) := ⟨rfl, rfl, rfl, by decide +kernel, rfl, by decide +kernel, by decide +kernel⟩
theorem sc_law_numbers : FnScope ["found", "bound", "first", "count", "k"] ["found", "bound"] (defScope s_law_numbers) := ⟨rfl, rfl, rfl, by decide +kernel, rfl, by decide +kernel, by decide +kernel⟩
theorem sc_law_refused_right : FnScope ["box", "rests", "named", "bad", "bound", "rows", "which", "args", "due", "told"] ["box", "rests", "named"] (defScope s_law_refused_right) := ⟨rfl, rfl, rfl, by decide +kernel, rfl, by decide +kernel, by decide +kernel⟩
theorem sc_law_scene_right : FnScope ["box", "named", "rests", "number", "due", "pair", "some", "given", "item", "bound", "told", "again"] ["box", "named"] (defScope s_law_scene_right) := ⟨rfl, rfl, rfl, by decide +kernel, rfl, by decide +kernel, by decide +kernel⟩
theorem sc_law : FnScope ["script", "k", "box", "named"] ["script"] (defScope s_law) := ⟨rfl, rfl, rfl, by decide +kernel, rfl, by decide +kernel, by decide +kernel⟩
structure Tx (P : Program) (K : PySem.W.Frag) (mg : Str → Option Value) where
  a_is_whole : Addr
  f_is_whole : FuncData
  F_is_whole : Fun K "is_whole" "is_whole" s_is_whole a_is_whole f_is_whole
  D_is_whole : Defn K mg "is_whole" a_is_whole f_is_whole ["value"]
  a_is_list : Addr
  f_is_list : FuncData
  F_is_list : Fun K "is_list" "is_list" s_is_list a_is_list f_is_list
  D_is_list : Defn K mg "is_list" a_is_list f_is_list ["value"]
  a_shared : Addr
  f_shared : FuncData
  F_shared : Fun K "shared" "shared" s_shared a_shared f_shared
  D_shared : Defn K mg "shared" a_shared f_shared ["one", "other"]
  a_are_rests : Addr
  f_are_rests : FuncData
  F_are_rests : Fun K "are_rests" "are_rests" s_are_rests a_are_rests f_are_rests
  D_are_rests : Defn K mg "are_rests" a_are_rests f_are_rests ["value"]
  a_check_rests : Addr
  f_check_rests : FuncData
  F_check_rests : Fun K "check_rests" "check_rests" s_check_rests a_check_rests f_check_rests
  D_check_rests : Defn K mg "check_rests" a_check_rests f_check_rests ["rests"]
  a_joined_two : Addr
  f_joined_two : FuncData
  F_joined_two : Fun K "joined_two" "joined_two" s_joined_two a_joined_two f_joined_two
  D_joined_two : Defn K mg "joined_two" a_joined_two f_joined_two ["one", "other"]
  a_joined_in : Addr
  f_joined_in : FuncData
  F_joined_in : Fun K "joined_in" "joined_in" s_joined_in a_joined_in f_joined_in
  D_joined_in : Defn K mg "joined_in" a_joined_in f_joined_in ["rests"]
  a_joined : Addr
  f_joined : FuncData
  F_joined : Fun K "joined" "joined" s_joined a_joined f_joined
  D_joined : Defn K mg "joined" a_joined f_joined ["rests"]
  a_clash : Addr
  f_clash : FuncData
  F_clash : Fun K "clash" "clash" s_clash a_clash f_clash
  D_clash : Defn K mg "clash" a_clash f_clash ["rests"]
  a_check_bound : Addr
  f_check_bound : FuncData
  F_check_bound : Fun K "check_bound" "check_bound" s_check_bound a_check_bound f_check_bound
  D_check_bound : Defn K mg "check_bound" a_check_bound f_check_bound ["bound"]
  a_numbers_in : Addr
  f_numbers_in : FuncData
  F_numbers_in : Fun K "numbers_in" "numbers_in" s_numbers_in a_numbers_in f_numbers_in
  D_numbers_in : Defn K mg "numbers_in" a_numbers_in f_numbers_in ["found", "bound"]
  a_numbers_with : Addr
  f_numbers_with : FuncData
  F_numbers_with : Fun K "numbers_with" "numbers_with" s_numbers_with a_numbers_with f_numbers_with
  D_numbers_with : Defn K mg "numbers_with" a_numbers_with f_numbers_with ["rests", "bound"]
  a_law_box : Addr
  f_law_box : FuncData
  F_law_box : Fun K "_law_box" "_law_box" s_law_box a_law_box f_law_box
  D_law_box : Defn K mg "_law_box" a_law_box f_law_box ["great"]
  a_law_take : Addr
  f_law_take : FuncData
  F_law_take : Fun K "_law_take" "_law_take" s_law_take a_law_take f_law_take
  D_law_take : Defn K mg "_law_take" a_law_take f_law_take ["box", "many"]
  a_law_cell : Addr
  f_law_cell : FuncData
  F_law_cell : Fun K "_law_cell" "_law_cell" s_law_cell a_law_cell f_law_cell
  D_law_cell : Defn K mg "_law_cell" a_law_cell f_law_cell ["script", "k"]
  a_law_common : Addr
  f_law_common : FuncData
  F_law_common : Fun K "_law_common" "_law_common" s_law_common a_law_common f_law_common
  D_law_common : Defn K mg "_law_common" a_law_common f_law_common ["a", "b"]
  a_law_same : Addr
  f_law_same : FuncData
  F_law_same : Fun K "_law_same" "_law_same" s_law_same a_law_same f_law_same
  D_law_same : Defn K mg "_law_same" a_law_same f_law_same ["told", "due"]
  a_law_rests : Addr
  f_law_rests : FuncData
  F_law_rests : Fun K "_law_rests" "_law_rests" s_law_rests a_law_rests f_law_rests
  D_law_rests : Defn K mg "_law_rests" a_law_rests f_law_rests ["box"]
  a_law_do_meet : Addr
  f_law_do_meet : FuncData
  F_law_do_meet : Fun K "_law_do_meet" "_law_do_meet" s_law_do_meet a_law_do_meet f_law_do_meet
  D_law_do_meet : Defn K mg "_law_do_meet" a_law_do_meet f_law_do_meet ["one", "other"]
  a_law_share : Addr
  f_law_share : FuncData
  F_law_share : Fun K "_law_share" "_law_share" s_law_share a_law_share f_law_share
  D_law_share : Defn K mg "_law_share" a_law_share f_law_share ["one", "other"]
  a_law_step : Addr
  f_law_step : FuncData
  F_law_step : Fun K "_law_step" "_law_step" s_law_step a_law_step f_law_step
  D_law_step : Defn K mg "_law_step" a_law_step f_law_step ["one", "other"]
  a_law_joined : Addr
  f_law_joined : FuncData
  F_law_joined : Fun K "_law_joined" "_law_joined" s_law_joined a_law_joined f_law_joined
  D_law_joined : Defn K mg "_law_joined" a_law_joined f_law_joined ["rests"]
  a_law_clash : Addr
  f_law_clash : FuncData
  F_law_clash : Fun K "_law_clash" "_law_clash" s_law_clash a_law_clash f_law_clash
  D_law_clash : Defn K mg "_law_clash" a_law_clash f_law_clash ["rests"]
  a_law_still : Addr
  f_law_still : FuncData
  F_law_still : Fun K "_law_still" "_law_still" s_law_still a_law_still f_law_still
  D_law_still : Defn K mg "_law_still" a_law_still f_law_still ["told", "due"]
  a_law_call : Addr
  f_law_call : FuncData
  F_law_call : Fun K "_law_call" "_law_call" s_law_call a_law_call f_law_call
  D_law_call : Defn K mg "_law_call" a_law_call f_law_call ["which", "a", "named"]
  a_law_numbers : Addr
  f_law_numbers : FuncData
  F_law_numbers : Fun K "_law_numbers" "_law_numbers" s_law_numbers a_law_numbers f_law_numbers
  D_law_numbers : Defn K mg "_law_numbers" a_law_numbers f_law_numbers ["found", "bound"]
  a_law_refused_right : Addr
  f_law_refused_right : FuncData
  F_law_refused_right : Fun K "_law_refused_right" "_law_refused_right" s_law_refused_right a_law_refused_right f_law_refused_right
  D_law_refused_right : Defn K mg "_law_refused_right" a_law_refused_right f_law_refused_right ["box", "rests", "named"]
  a_law_scene_right : Addr
  f_law_scene_right : FuncData
  F_law_scene_right : Fun K "_law_scene_right" "_law_scene_right" s_law_scene_right a_law_scene_right f_law_scene_right
  D_law_scene_right : Defn K mg "_law_scene_right" a_law_scene_right f_law_scene_right ["box", "named"]
  a_law : Addr
  f_law : FuncData
  F_law : Fun K "law" "law" s_law a_law f_law
  D_law : Defn K mg "law" a_law f_law ["script"]
  B_numbers_with : KB K f_numbers_with ["rests", "bound"] ["bound", "rests"] List.reverse List.reverse
  B_joined : KB K f_joined ["rests"] ["rests"] id id
  B_clash : KB K f_clash ["rests"] ["rests"] id id
  aW : Addr
  fW : Addr
  base : PySem.WrX.BaseTxt P K mg aW fW
  j_TooMany : Addr
  a_TooMany : Addr
  c_TooMany : PySem.WrX.ClsTxt K mg "TooMany" aW j_TooMany a_TooMany
  x_TooMany : XfC K a_TooMany
  o_TooMany : PySem.WrX.OwnTxt P K "TooMany.__init__" aW fW a_TooMany j_TooMany
  a_InvalidRests : Addr
  c_InvalidRests : PySem.WrX.ClsTxt K mg "InvalidRests" aW fW a_InvalidRests
  x_InvalidRests : XfC K a_InvalidRests
  a_InvalidBound : Addr
  c_InvalidBound : PySem.WrX.ClsTxt K mg "InvalidBound" aW fW a_InvalidBound
  x_InvalidBound : XfC K a_InvalidBound
  e_TooMany_TooMany : PySem.W.exmOne K (.ref a_TooMany) (.ref a_TooMany) = some true
  e_TooMany_InvalidRests : PySem.W.exmOne K (.ref a_TooMany) (.ref a_InvalidRests) = some false
  e_TooMany_InvalidBound : PySem.W.exmOne K (.ref a_TooMany) (.ref a_InvalidBound) = some false
  e_InvalidRests_TooMany : PySem.W.exmOne K (.ref a_InvalidRests) (.ref a_TooMany) = some false
  e_InvalidRests_InvalidRests : PySem.W.exmOne K (.ref a_InvalidRests) (.ref a_InvalidRests) = some true
  e_InvalidRests_InvalidBound : PySem.W.exmOne K (.ref a_InvalidRests) (.ref a_InvalidBound) = some false
  e_InvalidBound_TooMany : PySem.W.exmOne K (.ref a_InvalidBound) (.ref a_TooMany) = some false
  e_InvalidBound_InvalidRests : PySem.W.exmOne K (.ref a_InvalidBound) (.ref a_InvalidRests) = some false
  e_InvalidBound_InvalidBound : PySem.W.exmOne K (.ref a_InvalidBound) (.ref a_InvalidBound) = some true
  m_isinstance : mg "isinstance" = none
  m_int : mg "int" = none
  m_bool : mg "bool" = none
  m_str : mg "str" = none
  m_list : mg "list" = none
  m_tuple : mg "tuple" = none
  m_dict : mg "dict" = none
  m_len : mg "len" = none
  m_sum : mg "sum" = none
  m_zip : mg "zip" = none
  m_range : mg "range" = none
  m_abs : mg "abs" = none
  m_max : mg "max" = none
  m_min : mg "min" = none
  g_MOST_RESTS : ∃ tk, mg "MOST_RESTS" = some (.int 40 tk)
  g_MOST_TOLD : ∃ tk, mg "MOST_TOLD" = some (.int 1000 tk)
section
variable {P : Program} {w : World} {K : PySem.W.Frag} {mg : Str → Option Value} {base : Heap}
def sp_is_whole (K : PySem.W.Frag) : Sp := spT (fun _ : PyData => True) (fun d => [dt K d]) (fun d => dt K (.bool (isWholeD d)))
theorem ok_is_whole (T : Tx P K mg) : FnOk P w K mg base (L2.CX P w) 1 T.a_is_whole T.f_is_whole ["value"] (sp_is_whole K) := by
  have nd := sc_is_whole.nd
  refine fn_ty T.F_is_whole sc_is_whole (fun x _ => rfl) fun cdv Ar outer s H E hr => ⟨_, (pss_one (ps_ret (pe_and (k_isi (K := K) rfl T.m_isinstance (pa_cons (pv 0) (pa_cons (bt_int T.m_int) pa_nil))) (pe_one (pe_not (k_isi (K := K) rfl T.m_isinstance (pa_cons (pv 0) (pa_cons (bt_bool T.m_bool) pa_nil)))))))), fun W x hC => ?_⟩
  refine' TyS.never (tys_retW (Ty.is ?h ?k))
  case h => tm_at "ty"
  case k => cases x <;> rfl
end
section
variable {P : Program} {w : World} {K : PySem.W.Frag} {mg : Str → Option Value} {base : Heap}
def sp_is_list (K : PySem.W.Frag) : Sp := spT (fun _ : PyData => True) (fun d => [dt K d]) (fun d => dt K (.bool (isListD d)))
theorem ok_is_list (T : Tx P K mg) : FnOk P w K mg base (L2.CX P w) 1 T.a_is_list T.f_is_list ["value"] (sp_is_list K) := by
  have nd := sc_is_list.nd
  refine fn_ty T.F_is_list sc_is_list (fun x _ => rfl) fun cdv Ar outer s H E hr => ⟨_, (pss_one (ps_ret (k_isi2 (K := K) rfl T.m_isinstance (pa_cons (pv 0) (pa_cons (pe_tup (pa_cons (bt_list T.m_list) (pa_cons (bt_tuple T.m_tuple) pa_nil))) pa_nil))))), fun W x hC => ?_⟩
  refine TyS.never (tys_retW (Ty.is (ty_isi2 (ty_var rfl) (by decide) (by decide)) ?_))
  cases x <;> rfl
end
section
variable {P : Program} {w : World} {K : PySem.W.Frag} {mg : Str → Option Value} {base : Heap}
def sp_are_rests (K : PySem.W.Frag) : Sp := spT (fun _ : PyData => True) (fun d => [dt K d]) (fun d => dt K (.bool (areRestsD d)))
theorem all_no {ds : List PyData} {e : PyData} (h : e ∈ ds) (k : itemOk e = false) (b : Bool) : areRestsD (seqD b ds) = false := by
  rw [areRests_seq]
  cases z : ds.all itemOk with
  | false => rw [Bool.and_false]
  | true => rw [List.all_eq_true.mp z e h] at k; cases k
theorem all_take {ds : List PyData} {i : Nat} {e : PyData} (h : ∀ x ∈ ds.take i, itemOk x = true) (k : itemOk e = true) (q : ds[i]? = some e) : ∀ x ∈ ds.take (i + 1), itemOk x = true := by
  rw [List.take_add_one, q]
  intro x hx
  rcases List.mem_append.mp hx with hx | hx
  · exact h x hx
  · have : x = e := by simpa using hx
    rw [this]; exact k
theorem list_form {d : PyData} (h : isListD d = true) : ∃ b ds, d = seqD b ds := by
  cases d <;> simp [isListD] at h
  · exact ⟨false, _, rfl⟩
  · exact ⟨true, _, rfl⟩
theorem list_no {d : PyData} (h : isListD d = false) : areRestsD d = false := by
  cases d <;> simp [isListD] at h <;> rfl
theorem item_two {es : List PyData} (h : es.length ≠ 2) : itemOk (.tuple es) = false := by
  match es, h with
  | [], _ => rfl
  | [_], _ => simp [itemOk]
  | [a, b], h => exact absurd rfl h
  | _ :: _ :: _ :: _, _ => simp [itemOk]
theorem ok_are_rests (T : Tx P K mg) : FnOk P w K mg base (L2.CX P w) 2 T.a_are_rests T.f_are_rests ["value"] (sp_are_rests K) := by
  have G_is_list := ok_is_list (w := w) (base := base) T
  have G_is_whole := ok_is_whole (w := w) (base := base) T
  have nd := sc_are_rests.nd
  refine fn_ty T.F_are_rests sc_are_rests (fun x _ => rfl) fun cdv Ar outer s H E hr => ⟨_, (pss_cons (ps_if (PW.pt (pw_or (pt_not (pt_val (pcall G_is_list (hr.mono (by decide)) T.D_is_list (pa_cons (pv 0) pa_nil)))) (pw_or1 (pt_cmpR op_gt (k_len (K := K) rfl T.m_len (pa_cons (pv 0) pa_nil)) (pglob T.g_MOST_RESTS) (nomark _))))) (pss_one (ps_ret pe_bl)) pss_nil)
    (pss_cons (ps_for PassesOwn.never rfl (k_iseq (K := K) rfl (pv 0)) (pgn 1 nd) (pss_cons (ps_if (PW.pt (pw_or (pt_not (pt_val (k_isi (K := K) rfl T.m_isinstance (pa_cons (pv 1) (pa_cons (bt_tuple T.m_tuple) pa_nil))))) (pw_or (pt_cmpR (k_ne (K := K) rfl hr.units) (k_len (K := K) rfl T.m_len (pa_cons (pv 1) pa_nil)) pe_int (nomark _)) (pw_or (pt_not (pt_val (pcall G_is_whole (hr.mono (by decide)) T.D_is_whole (pa_cons (pe_ix (k_ix (K := K) rfl) (pv 1) pe_int (fun _ _ => rfl)) pa_nil)))) (pw_or1 (pt_not (pt_val (pcall G_is_whole (hr.mono (by decide)) T.D_is_whole (pa_cons (pe_ix (k_ix (K := K) rfl) (pv 1) pe_int (fun _ _ => rfl)) pa_nil))))))))) (pss_one (ps_ret pe_bl)) pss_nil)
    (pss_one (ps_if (pt_cmpR op_lt (pe_ix (k_ix (K := K) rfl) (pv 1) pe_int (fun _ _ => rfl)) pe_int (nomark _)) (pss_one (ps_ret pe_bl)) pss_nil))))
    (pss_one (ps_ret pe_bl)))), fun W x hC => ?_⟩
  cases hl : isListD x with
  | false => exact tys_guard (φ := (· = true)) (tt_orTr (Tt.is (tt_notB (tt_B (ty_call x trivial (tya_cons (ty_var rfl) tya_nil)))) (by rw [hl]; rfl))) (fun _ => tys_retW (Ty.is ty_bl (congrArg PyData.bool (list_no hl).symm))) (fun z => Bool.noConfusion z)
  | true =>
    obtain ⟨b, ds, rfl⟩ := list_form hl
    refine tys_guard (φ := (· = decide ((40 : Int) < (ds.length : Nat)))) (Tt.is (tt_orB (a := false) (Tt.is (tt_notB (tt_B (ty_call (seqD b ds) trivial (tya_cons (ty_var rfl) tya_nil)))) (by rw [hl]; rfl)) fun _ => tt_test (ty_op (ty_lenSeq (ty_var rfl)) ty_int opt_gt)) rfl) (fun z => ?_) fun z => ?_
    · have z1 := of_decide_eq_true z.symm
      refine tys_retW (Ty.is ty_bl (congrArg PyData.bool ?_))
      rw [areRests_seq, decide_eq_false (by omega)]; rfl
    have z1 := of_decide_eq_false z.symm
    have lz : decide (ds.length ≤ 40) = true := decide_eq_true (by omega)
    refine tys_seqE (W' := W) (Γ' := [some (gd (∀ e ∈ ds, itemOk e = true) (dt K (seqD b ds))), none]) ?_ (TyS.never (TyS.openG (n := 0) rfl fun h => tys_retW (Ty.is ty_bl (congrArg PyData.bool (by rw [areRests_seq, lz, List.all_eq_true.mpr h]; rfl)))))
    refine tys_for (Wi := fun _ (_ : Unit) => W) (Γi := fun i (_ : Unit) => [some (gd (∀ e ∈ ds.take i, itemOk e = true) (dt K (seqD b ds))), none]) () (tyi_seqD (ty_var rfl)) (fun _ _ => Wd.Like.refl W) (fun σ H g => ⟨g.1, EnvL.less (by exact ⟨fun _ _ _ _ h => ⟨fun e he => by simp at he, h⟩, True.intro⟩) g.2⟩) (fun i T x hT => ?_) (fun x σ H g => ?_)
    · rw [List.getElem?_map] at hT
      cases hp : ds[i]? with
      | none => rw [hp] at hT; cases hT
      | some e =>
        rw [hp] at hT
        cases hT
        have me := List.mem_of_getElem? hp
        refine ⟨_, tyg_name 1, TyS.openG (n := 0) rfl fun hk => ?_⟩
        show TyS W [some (dt K (seqD b ds)), some (dt K e)] _ _ _ _ _
        have no : itemOk e = false → TyS W [some (dt K (seqD b ds)), some (dt K e)] (tRet (tC (V.bl false))) noN (rW W (dt K (.bool (areRestsD (seqD b ds))))) (nE W [some (gd (∀ e ∈ ds, itemOk e = true) (dt K (seqD b ds))), none]) (fun σ H => ∃ y : Unit, nE W [some (gd (∀ e ∈ ds.take (i + 1), itemOk e = true) (dt K (seqD b ds))), none] σ H) := fun h => tys_retW (Ty.is ty_bl (congrArg PyData.bool (all_no me h b).symm))
        have yes : itemOk e = true → TyS W [some (dt K (seqD b ds)), some (dt K e)] tNext (fun σ H => ∃ y : Unit, nE W [some (gd (∀ e ∈ ds.take (i + 1), itemOk e = true) (dt K (seqD b ds))), none] σ H) (rW W (dt K (.bool (areRestsD (seqD b ds))))) (nE W [some (gd (∀ e ∈ ds, itemOk e = true) (dt K (seqD b ds))), none]) (fun σ H => ∃ y : Unit, nE W [some (gd (∀ e ∈ ds.take (i + 1), itemOk e = true) (dt K (seqD b ds))), none] σ H) := fun h => tys_next.imp fun σ H g => ⟨(), g.1, EnvL.less (by exact ⟨fun _ _ _ _ z => ⟨all_take hk h hp, z⟩, True.intro⟩) g.2⟩
        cases e with
        | tuple es =>
          by_cases l2 : es.length = 2
          · match es, l2 with
            | [u, v], _ =>
              refine tys_guard (φ := (· = (!isWholeD u || !isWholeD v))) (Tt.is (tt_orB (a := false) (by tm_at "ttis") fun _ => tt_orB (a := false) (by tm_at "ttis") fun _ => tt_orB (tt_notB (tt_B (ty_call u trivial (tya_cons (ty_op (ty_var rfl) ty_int (opt_ixT (i := 0) (d := u) (ds := [u, v]) (atI_nat (j := 0) rfl))) tya_nil)))) fun _ => tt_notB (tt_B (ty_call v trivial (tya_cons (ty_op (ty_var rfl) ty_int (opt_ixT (i := 1) (d := v) (ds := [u, v]) (atI_nat (j := 1) rfl))) tya_nil)))) rfl) (fun z => no ?_) fun z => ?_
              · cases u <;> cases v <;> simp [isWholeD] at z <;> rfl
              · obtain ⟨i0, rfl⟩ : ∃ i0, u = .int i0 := by cases u <;> simp [isWholeD] at z; exact ⟨_, rfl⟩
                obtain ⟨m, rfl⟩ : ∃ m, v = .int m := by cases v <;> simp [isWholeD] at z; exact ⟨_, rfl⟩
                refine tys_if (φ := (· = decide (m < 1))) (tt_test (ty_op (ty_op (ty_var rfl) ty_int (opt_ixT (i := 1) (d := .int m) (ds := [.int i0, .int m]) (atI_nat (j := 1) rfl))) ty_int opt_lt)) (fun z => TyS.never (no ?_)) fun z => yes ?_
                · have z2 := of_decide_eq_true z.symm
                  exact decide_eq_false (by omega)
                · have z2 := of_decide_eq_false z.symm
                  exact decide_eq_true (by omega)
          · have l3 : ¬ ((es.length : Nat) : Int) = 2 := by omega
            exact tys_guard (φ := (· = true)) (Tt.is (tt_orB (a := false) (by tm_at "ttis") fun _ => tt_orTr (Tt.is (tt_test (ty_op (ty_cb (tya_cons (ty_var rfl) tya_nil) cbt_lenT) ty_int opt_neI)) (by rw [decide_eq_false l3]; rfl))) rfl) (fun _ => no (item_two l2)) fun z => Bool.noConfusion z
        | _ => exact tys_guard (φ := (· = true)) (tt_orTr (by tm_at "ttis")) (fun _ => no rfl) fun z => Bool.noConfusion z
    · rw [List.length_map] at g
      exact ⟨g.1, EnvL.less (by exact ⟨fun _ _ _ _ h => by rw [List.take_length] at h; exact h, True.intro⟩) g.2⟩
end
section
variable {P : Program} {w : World} {K : PySem.W.Frag} {mg : Str → Option Value} {base : Heap}
def sp_check_rests (T : Tx P K mg) : Sp := spX (fun _ : PyData => True) (fun d => [dt K d]) (fun _ => rT (dt K .none)) (fun d => if areRestsD d = true then none else some ⟨T.a_InvalidRests, flG, dt K d⟩)
theorem ok_check_rests (T : Tx P K mg) : FnOk P w K mg base (L2.CX P w) 6 T.a_check_rests T.f_check_rests ["rests"] (sp_check_rests T) := by
  have G_are_rests := ok_are_rests (w := w) (base := base) T
  have nd := sc_check_rests.nd
  refine fn_tyX T.F_check_rests sc_check_rests (fun x _ => rfl) fun cdv Ar outer s H E hr => ⟨_, (pss_one (ps_if (pt_not (pt_val (pcall G_are_rests (hr.mono (by decide)) T.D_are_rests (pa_cons (pv 0) pa_nil)))) (pss_one (ps_raiseW rfl T.base T.c_InvalidRests hr (takes_of rfl rfl rfl rfl) (pa_cons (pv 0) pa_nil))) pss_nil)), fun W x hC he => ?_⟩
  refine tys_guard (φ := (· = !areRestsD x)) (tt_notB (tt_test (ty_call x trivial (by tm_at "tya")))) (fun z => ?_) fun z => ?_
  · have e : areRestsD x = false := bnot1 z
    exact tys_raiseG (T := dt K x) (by tm_at "ty") (he _ _ (by rw [e]; rfl))
  · have e : areRestsD x = true := bnot0 z
    exact tys_next.imp fun σ H n => ⟨by rw [e]; rfl, n.1.ex, .non⟩
end
section
variable {P : Program} {w : World} {K : PySem.W.Frag} {mg : Str → Option Value} {base : Heap}
def boundOk : PyData → Bool
  | .int b => decide (0 ≤ b)
  | _ => false
def sp_check_bound (T : Tx P K mg) : Sp := spX (fun _ : PyData => True) (fun d => [dt K d]) (fun _ => rT (dt K .none)) (fun d => if boundOk d = true then none else some ⟨T.a_InvalidBound, flG, dt K d⟩)
theorem ok_check_bound (T : Tx P K mg) : FnOk P w K mg base (L2.CX P w) 6 T.a_check_bound T.f_check_bound ["bound"] (sp_check_bound T) := by
  have G_is_whole := ok_is_whole (w := w) (base := base) T
  have nd := sc_check_bound.nd
  refine fn_tyX T.F_check_bound sc_check_bound (fun x _ => rfl) fun cdv Ar outer s H E hr => ⟨_, (pss_one (ps_if (PW.pt (pw_or (pt_not (pt_val (pcall G_is_whole (hr.mono (by decide)) T.D_is_whole (pa_cons (pv 0) pa_nil)))) (pw_or1 (pt_cmpR op_lt (pv 0) pe_int (nomark _))))) (pss_one (ps_raiseW rfl T.base T.c_InvalidBound hr (takes_of rfl rfl rfl rfl) (pa_cons (pv 0) pa_nil))) pss_nil)), fun W x hC he => ?_⟩
  refine tys_guard (φ := (· = !boundOk x)) ?_ (fun z => ?_) fun z => ?_
  · cases x with
    | int b => exact Tt.is (tt_orB (a := false) (Tt.is (tt_notB (tt_B (ty_call (PyData.int b) trivial (by tm_at "tya")))) rfl) fun _ => tt_test (ty_op (ty_var rfl) ty_int opt_lt)) (by show (false || decide (b < 0)) = !decide (0 ≤ b); by_cases c : b < 0 <;> simp [c] <;> omega)
    | _ => exact tt_orTr (Tt.is (tt_notB (tt_B (ty_call _ trivial (by tm_at "tya")))) rfl)
  · have e : boundOk x = false := bnot1 z
    exact tys_raiseG (T := dt K x) (by tm_at "ty") (he _ _ (by rw [e]; rfl))
  · have e : boundOk x = true := bnot0 z
    exact tys_next.imp fun σ H n => ⟨by rw [e]; rfl, n.1.ex, .non⟩
end
section
variable {P : Program} {w : World} {K : PySem.W.Frag} {mg : Str → Option Value} {base : Heap}
/-- the divisor and its shares -/
def shaT (K : PySem.W.Frag) (one other : Int) : Typ := exT fun s : Int × Int => gd (Share one other s.1 ∧ sq s.1) (dt K (intsD [gI one other, s.1, s.2]))
def twoC (x : Int × Int) : Prop := 0 < x.1 ∧ 0 < x.2 ∧ sq x.1 ∧ sq x.2
/-- two rows -/
structure Row2 where
  r0 : Int
  x0 : Int
  y0 : Int
  r1 : Int
  x1 : Int
  y1 : Int
structure RowI (one other : Int) (s : Row2) : Prop where
  g : EucG one other s.r0 s.r1
  bx : EucB other s.r0 s.x0 s.r1 s.x1
  b_y : EucB one s.r0 s.y0 s.r1 s.y1
  l0 : Lin one other s.r0 s.x0
  l1 : Lin one other s.r1 s.x1
theorem bd_of {n : Nat} {a m : Int} (h : (a.natAbs : Int) ≤ m) (k : bd n m) : bd n a := by
  unfold bd at *; omega
def rowG (K : PySem.W.Frag) (one other : Int) (s : Row2) : Gam := [some (dt K (.int one)), some (dt K (.int other)), some (dt K (.list [intsD [s.r0, s.x0, s.y0], intsD [s.r1, s.x1, s.y1]])), none, none, none, none]
def sp_shared (K : PySem.W.Frag) : Sp := spT twoC (fun x => [dt K (.int x.1), dt K (.int x.2)]) (fun x => shaT K x.1 x.2)
theorem ok_shared (T : Tx P K mg) : FnOk P w K mg base (L2.CX P w) 1 T.a_shared T.f_shared ["one", "other"] (sp_shared K) := by
  have nd := sc_shared.nd
  refine fn_ty T.F_shared sc_shared (fun x _ => rfl) fun cdv Ar outer s H E hr => ⟨_, (pss_cons (pset 2 nd (pe_lst (pa_cons (pe_tup (pa_cons (pv 0) (pa_cons pe_int (pa_cons pe_int pa_nil)))) (pa_cons (pe_tup (pa_cons (pv 1) (pa_cons pe_int (pa_cons pe_int pa_nil)))) pa_nil))))
    (pss_cons (ps_while PassesOwn.never (pt_cmpR (k_ne (K := K) rfl hr.units) (pe_ix (k_ix (K := K) rfl) (pe_ix (k_ix (K := K) rfl) (pv 2) pe_int (fun _ _ => rfl)) pe_int (fun _ _ => rfl)) pe_int (nomark _)) (pss_cons (pset 3 nd (pe_op op_divA (pe_ix (k_ix (K := K) rfl) (pe_ix (k_ix (K := K) rfl) (pv 2) pe_int (fun _ _ => rfl)) pe_int (fun _ _ => rfl)) (pe_ix (k_ix (K := K) rfl) (pe_ix (k_ix (K := K) rfl) (pv 2) pe_int (fun _ _ => rfl)) pe_int (fun _ _ => rfl))))
    (pss_one (pset 2 nd (pe_lst (pa_cons (pe_ix (k_ix (K := K) rfl) (pv 2) pe_int (fun _ _ => rfl)) (pa_cons (k_tuple (K := K) rfl T.m_tuple (pa_cons (plc [("here", 4), ("there", 5)] nd (k_izip (K := K) rfl T.m_zip (pa_cons (pe_ix (k_ix (K := K) rfl) (pv 2) pe_int (fun _ _ => rfl)) (pa_cons (pe_ix (k_ix (K := K) rfl) (pv 2) pe_int (fun _ _ => rfl)) pa_nil))) (fun _ _ _ _ _ => (k_gtup (K := K) (n := 2) rfl (pgs_cons (pgn 4 nd) (pgs_cons (pgn 5 nd) pgs_nil)))) (fun _ _ _ _ _ => pts_nil) (fun _ _ _ _ _ => (pe_op op_sub (pv 4) (pe_op op_mulA (pv 3) (pv 5)))) (by kernel_rfl)) pa_nil)) pa_nil)))))))
    (pss_one (ps_ret (pe_ifExp (pt_cmpR op_ge (pe_ix (k_ix (K := K) rfl) (pe_ix (k_ix (K := K) rfl) (pv 2) pe_int (fun _ _ => rfl)) pe_int (fun _ _ => rfl)) pe_int (nomark _)) (pe_ix (k_ix (K := K) rfl) (pv 2) pe_int (fun _ _ => rfl)) (k_tuple (K := K) rfl T.m_tuple (pa_cons (plc [("item", 6)] nd (k_itup (K := K) rfl (pe_ix (k_ix (K := K) rfl) (pv 2) pe_int (fun _ _ => rfl))) (fun _ _ _ _ _ => (pgn 6 nd)) (fun _ _ _ _ _ => pts_nil) (fun _ _ _ _ _ => (pe_un un_neg (pv 6))) (by kernel_rfl)) pa_nil))))))), fun W x hC => ?_⟩
  obtain ⟨one, other⟩ := x
  obtain ⟨h1, h2, h3, h4⟩ : 0 < one ∧ 0 < other ∧ sq one ∧ sq other := hC
  refine tys_seqE (W' := W) (Γ' := rowG K one other ⟨one, 1, 0, other, 0, 1⟩) (tys_set (ty_lstD (ds := [intsD [one, 1, 0], intsD [other, 0, 1]]) (tya_cons (ty_tupD (ds := [.int one, .int 1, .int 0]) (by tm_at "tyad") (by show 3 ≤ 1000000; decide)) (tya_cons (ty_tupD (ds := [.int other, .int 0, .int 1]) (by tm_at "tyad") (by show 3 ≤ 1000000; decide)) tya_nil)) (by show 2 ≤ 1000000; decide))) ?_
  have row0 : ∀ (W : Wd) (s : Row2) (Γ : Gam), Γ[2]? = some (some (dt K (.list [intsD [s.r0, s.x0, s.y0], intsD [s.r1, s.x1, s.y1]]))) → Ty W Γ (tOp (rIx K) (tVar 2) (tC (.int 0))) (dt K (intsD [s.r0, s.x0, s.y0])) := fun W s Γ h => ty_op (ty_var h) ty_int (opt_ixL (i := 0) (ds := [intsD [s.r0, s.x0, s.y0], intsD [s.r1, s.x1, s.y1]]) (atI_nat (j := 0) rfl))
  have row1 : ∀ (W : Wd) (s : Row2) (Γ : Gam), Γ[2]? = some (some (dt K (.list [intsD [s.r0, s.x0, s.y0], intsD [s.r1, s.x1, s.y1]]))) → Ty W Γ (tOp (rIx K) (tVar 2) (tC (.int 1))) (dt K (intsD [s.r1, s.x1, s.y1])) := fun W s Γ h => ty_op (ty_var h) ty_int (opt_ixL (i := 1) (ds := [intsD [s.r0, s.x0, s.y0], intsD [s.r1, s.x1, s.y1]]) (atI_nat (j := 1) rfl))
  have cell : ∀ (W : Wd) (Γ : Gam) (te : TE) (r x y : Int), Ty W Γ te (dt K (intsD [r, x, y])) → Ty W Γ (tOp (rIx K) te (tC (.int 0))) (dt K (.int r)) := fun W Γ te r x y h => ty_op h ty_int (opt_ix0 (d := .int r) (ds := [.int x, .int y]))
  refine tys_seqX (α := { s : Row2 // RowI one other s ∧ s.r1 = 0 }) (W' := fun _ => W) (Γ' := fun s => rowG K one other s.1) ?_ fun s => ?_
  · refine tys_while (RowI one other) (rowG K one other) (fun s => s.r1.toNat) ⟨one, 1, 0, other, 0, 1⟩ ⟨.start h1 h2, ⟨by first | (simp; done) | (simp; omega), by first | (simp; done) | (simp; omega), by first | (simp; done) | (simp; omega)⟩, ⟨by first | (simp; done) | (simp; omega), by first | (simp; done) | (simp; omega), by first | (simp; done) | (simp; omega)⟩, ⟨0, by simp⟩, ⟨1, by simp⟩⟩ (fun σ H g => g) fun s I => ⟨(· = !decide (s.r1 = 0)), ?_, fun z => ?_, fun z σ H g => ?_⟩
    · exact tt_test (ty_op (cell _ _ _ _ _ _ (row1 _ s _ rfl)) ty_int opt_neI)
    · have nz : s.r1 ≠ 0 := by simpa using z
      have p1 : 0 < s.r1 := by have := I.g.p1; omega
      have b2 : bd 401 (one + other) := h3.add h4
      have b0 : bd 401 s.r0 := b2.le (by have := I.g.p0; omega) I.g.s0
      have b1 : bd 401 s.r1 := b2.le (by omega) I.g.s1
      have q := quo I.g.p0 p1
      have bc : bd 401 (s.r0 / s.r1) := b0.le q.1 q.2.1
      refine tys_seqE (W' := W) (Γ' := [some (dt K (.int one)), some (dt K (.int other)), some (dt K (.list [intsD [s.r0, s.x0, s.y0], intsD [s.r1, s.x1, s.y1]])), some (dt K (.int (s.r0 / s.r1))), none, none, none]) (tys_set (ty_op (cell _ _ _ _ _ _ (row0 _ s _ rfl)) (cell _ _ _ _ _ _ (row1 _ s _ rfl)) (opt_div (bd.div_ok p1 b1 (by decide))))) ?_
      have hz : TyI W [some (dt K (.int one)), some (dt K (.int other)), some (dt K (.list [intsD [s.r0, s.x0, s.y0], intsD [s.r1, s.x1, s.y1]])), some (dt K (.int (s.r0 / s.r1))), none, none, none] (RZ.iZipA K (tCons (tOp (rIx K) (tVar 2) (tC (.int 0))) (tCons (tOp (rIx K) (tVar 2) (tC (.int 1))) tNil))) (([s.r0, s.x0, s.y0].zip [s.r1, s.x1, s.y1]).map fun p => tupT K [dt K (.int p.1), dt K (.int p.2)]) := tyi_zipA (f := .int) (h := .int) (row0 _ s _ rfl) (row1 _ s _ rfl)
      refine TyS.imp (tys_set (ty_lstD (ds := [intsD [s.r1, s.x1, s.y1], intsD [s.r0 - s.r0 / s.r1 * s.r1, s.x0 - s.r0 / s.r1 * s.x1, s.y0 - s.r0 / s.r1 * s.y1]]) (tya_cons (row1 _ s _ rfl) (tya_cons (Ty.is (ty_tupG (f := fun p : Int × Int => .int (p.1 - s.r0 / s.r1 * p.2)) (xs := [s.r0, s.x0, s.y0].zip [s.r1, s.x1, s.y1]) (tyl_mapT _ (fun p : Int × Int => dt K (.int (p.1 - s.r0 / s.r1 * p.2))) hz (by show 3 ≤ 1000000; decide) (gok_pair (by decide) (by decide)) fun W' p hp => ⟨_, tyg_pair, ?_⟩)) rfl) tya_nil)) (by show 2 ≤ 1000000; decide))) fun σ H g => ⟨⟨s.r1, s.x1, s.y1, s.r0 - s.r0 / s.r1 * s.r1, s.x0 - s.r0 / s.r1 * s.x1, s.y0 - s.r0 / s.r1 * s.y1⟩, ⟨I.g.step p1, I.bx.step I.g.p0 p1, I.b_y.step I.g.p0 p1, I.l1, I.l0.step I.l1 _⟩, by show (s.r0 - s.r0 / s.r1 * s.r1).toNat < s.r1.toNat; omega, g.1, EnvL.less (by exact ⟨fun _ _ _ _ h => h, fun _ _ _ _ h => h, fun _ _ _ _ h => h, True.intro⟩) g.2⟩
      have bp : bd 401 p.2 := by
        have hp' : p = (s.r0, s.r1) ∨ p = (s.x0, s.x1) ∨ p = (s.y0, s.y1) := by simpa using hp
        rcases hp' with rfl | rfl | rfl
        · exact b1
        · exact bd_of I.bx.b1 (h4.mono (by decide))
        · exact bd_of I.b_y.b1 (h3.mono (by decide))
      exact ty_op (ty_var rfl) (ty_op (ty_var rfl) (ty_var rfl) (opt_mulW (bc.mul_ok bp (by decide)))) opt_sub
    · exact ⟨⟨s, I, by simpa using z⟩, g⟩
  · obtain ⟨s, I, z⟩ := s
    dsimp only
    refine TyS.never (tys_retW (Ty.sub (T := dt K (intsD [s.r0, s.x0, s.y0])) (ty_if (φ := (· = true)) (Tt.is (tt_test (ty_op (cell _ _ _ _ _ _ (row0 _ s _ rfl)) ty_int opt_ge)) (decide_eq_true (by have := I.g.p0; omega))) (fun _ => row0 _ s _ rfl) fun z => Bool.noConfusion z) fun v H _ hv => ?_))
    have e := share_end (z ▸ I.g) I.l0
    exact ⟨(s.x0, s.y0), ⟨e.2, bd_of I.bx.b0 h4⟩, by rw [← e.1]; exact hv⟩
end
section
variable {P : Program} {w : World} {K : PySem.W.Frag} {mg : Str → Option Value} {base : Heap}
structure P2 (p q : RP) : Prop where
  p0 : 0 < p.2
  q0 : 0 < q.2
  p1 : sq p.1
  p2 : sq p.2
  q1 : sq q.1
  q2 : sq q.2
theorem gI_sq {a b : Int} (h0 : 0 < a) (h : sq a) : sq (gI a b) := h.le (by have := gI_pos (b := b) h0; omega) (Int.le_of_dvd h0 (gI_l a b))
theorem tyg_tri {W : Wd} {Γ : Gam} {K : PySem.W.Frag} {i j k : Nat} {a b c : Int} : TyG W Γ (gTup K 3 (gCons (gName i) (gCons (gName j) (gCons (gName k) gNil)))) (dt K (intsD [a, b, c])) (((Γ.set i (some (dt K (.int a)))).set j (some (dt K (.int b)))).set k (some (dt K (.int c)))) :=
  (tyg_tup (Ts := [dt K (.int a), dt K (.int b), dt K (.int c)]) (tygs_cons (tyg_name i) (tygs_cons (tyg_name j) (tygs_cons (tyg_name k) tygs_nil)))).sub fun v H z => data_tupT (ds := [.int a, .int b, .int c]) z
def sp_joined_two (K : PySem.W.Frag) : Sp := spT (fun x : RP × RP => P2 x.1 x.2) (fun x => [dt K (pairD x.1), dt K (pairD x.2)]) (fun x => dt K (optD (jt x.1 x.2)))
theorem ok_joined_two (T : Tx P K mg) : FnOk P w K mg base (L2.CX P w) 2 T.a_joined_two T.f_joined_two ["one", "other"] (sp_joined_two K) := by
  have G_shared := ok_shared (w := w) (base := base) T
  have nd := sc_joined_two.nd
  refine fn_ty T.F_joined_two sc_joined_two (fun x _ => rfl) fun cdv Ar outer s H E hr => ⟨_, (pss_cons (ps_asg (pcall G_shared (hr.mono (by decide)) T.D_shared (pa_cons (pe_ix (k_ix (K := K) rfl) (pv 0) pe_int (fun _ _ => rfl)) (pa_cons (pe_ix (k_ix (K := K) rfl) (pv 1) pe_int (fun _ _ => rfl)) pa_nil))) (k_gtup (K := K) (n := 3) rfl (pgs_cons (pgn 2 nd) (pgs_cons (pgn 3 nd) (pgs_cons (pgn 4 nd) pgs_nil)))))
    (pss_cons (ps_if (pt_cmpR (k_ne (K := K) rfl hr.units) (pe_op op_mod (pe_op op_sub (pe_ix (k_ix (K := K) rfl) (pv 1) pe_int (fun _ _ => rfl)) (pe_ix (k_ix (K := K) rfl) (pv 0) pe_int (fun _ _ => rfl))) (pv 2)) pe_int (nomark _)) (pss_one (ps_ret pe_non)) pss_nil)
    (pss_cons (pset 5 nd (pe_op op_mulA (pe_op op_divA (pe_ix (k_ix (K := K) rfl) (pv 0) pe_int (fun _ _ => rfl)) (pv 2)) (pe_ix (k_ix (K := K) rfl) (pv 1) pe_int (fun _ _ => rfl))))
    (pss_one (ps_ret (pe_tup (pa_cons (pe_op op_mod (pe_op (k_add (K := K) rfl) (pe_ix (k_ix (K := K) rfl) (pv 0) pe_int (fun _ _ => rfl)) (pe_op op_mulA (pe_op op_mulA (pe_op op_divA (pe_op op_sub (pe_ix (k_ix (K := K) rfl) (pv 1) pe_int (fun _ _ => rfl)) (pe_ix (k_ix (K := K) rfl) (pv 0) pe_int (fun _ _ => rfl))) (pv 2)) (pv 3)) (pe_ix (k_ix (K := K) rfl) (pv 0) pe_int (fun _ _ => rfl)))) (pv 5)) (pa_cons (pv 5) pa_nil)))))))), fun W x hC => ?_⟩
  obtain ⟨p, q⟩ := x
  have C : P2 p q := hC
  have g0 := gI_pos (b := q.2) C.p0
  have gb := gI_sq (b := q.2) C.p0 C.p2
  refine tys_seqX (W' := fun _ => W) (tys_asgX (φ := fun s : Int × Int => Share p.2 q.2 s.1 ∧ sq s.1) (A := fun s => dt K (intsD [gI p.2 q.2, s.1, s.2])) (Γ' := fun s => [some (dt K (pairD p)), some (dt K (pairD q)), some (dt K (.int (gI p.2 q.2))), some (dt K (.int s.1)), some (dt K (.int s.2)), none]) (ty_call (p.2, q.2) ⟨C.p0, C.q0, C.p2, C.q2⟩ (tya_cons (ty_p2 (p := p) (ty_var rfl)) (tya_cons (ty_p2 (p := q) (ty_var rfl)) tya_nil))) fun s => tyg_tri) fun s => ?_
  obtain ⟨⟨x, y⟩, hs, hx⟩ := s
  dsimp only
  have hd : Ty W [some (dt K (pairD p)), some (dt K (pairD q)), some (dt K (.int (gI p.2 q.2))), some (dt K (.int x)), some (dt K (.int y)), none] (tOp (rI0 fun i j => V.int (i - j)) (tOp (rIx K) (tVar 1) (tC (V.int 0))) (tOp (rIx K) (tVar 0) (tC (V.int 0)))) (dt K (.int (q.1 - p.1))) := ty_op (ty_p1 (ty_var rfl)) (ty_p1 (ty_var rfl)) opt_sub
  refine tys_guard (φ := (· = !meetB p q)) (tt_test (ty_op (ty_op hd (ty_var rfl) (opt_mod g0)) ty_int opt_neI)) (fun z => ?_) fun z => ?_
  · have e : meetB p q = false := bnot1 z
    exact tys_retW (Ty.is ty_non (by show PyData.none = optD (jt p q); unfold jt; rw [if_neg (by rw [e]; exact Bool.false_ne_true)]; rfl))
  · have e : meetB p q = true := bnot0 z
    have cp := crt_prog C.p0 C.q0 e hs
    have b1 : bd 400 (p.2 / gI p.2 q.2) := C.p2.div g0
    have b2 : bd 401 (q.1 - p.1) := C.q1.sub C.p1
    have b3 : bd 401 ((q.1 - p.1) / gI p.2 q.2) := b2.div g0
    have b4 := b3.mul hx
    have pos : 0 < p.2 / gI p.2 q.2 * q.2 := mI_pos C.p0 C.q0
    refine tys_seqE (tys_set (ty_op (ty_op (ty_p2 (ty_var rfl)) (ty_var rfl) (opt_div (gb.div_ok g0 (by decide)))) (ty_p2 (ty_var rfl)) (opt_mulW (b1.mul_ok C.q2 (by decide))))) ?_
    refine TyS.never (tys_retW (Ty.is (ty_tupD (ds := [.int ((p.1 + (q.1 - p.1) / gI p.2 q.2 * x * p.2) % (p.2 / gI p.2 q.2 * q.2)), .int (p.2 / gI p.2 q.2 * q.2)]) (tya_cons (ty_op (ty_op (ty_p1 (ty_var rfl)) (ty_op (ty_op (ty_op (ty_op (ty_p1 (ty_var rfl)) (ty_p1 (ty_var rfl)) opt_sub) (ty_var rfl) (opt_div (gb.div_ok g0 (by decide)))) (ty_var rfl) (opt_mulW (b3.mul_ok hx (by decide)))) (ty_p2 (ty_var rfl)) (opt_mulW (b4.mul_ok C.p2 (by decide)))) opt_add) (ty_var rfl) (opt_mod pos)) (tya_cons (ty_var rfl) tya_nil)) (by show 2 ≤ 1000000; decide)) ?_))
    show _ = optD (jt p q)
    unfold jt
    rw [if_pos e, cp]; rfl
end
section
variable {P : Program} {w : World} {K : PySem.W.Frag} {mg : Str → Option Value} {base : Heap}
theorem tyi_seqA {W : Wd} {Γ : Gam} {K : PySem.W.Frag} {te : TE} {b : Bool} {α : Type} {xs : List α} {f : α → PyData} (h : Ty W Γ te (dt K (seqD b (xs.map f)))) : TyI W Γ (iSeq K te) (xs.map fun x => dt K (f x)) := by
  have z := tyi_seqD h
  rw [List.map_map] at z
  exact z
theorem drop_at {α : Type} {l : List α} {i : Nat} {x : α} (h : l[i]? = some x) : l.drop i = x :: l.drop (i + 1) := by
  obtain ⟨hi, e⟩ := List.getElem?_eq_some_iff.mp h
  rw [List.drop_eq_getElem_cons hi, e]
structure FOk (L : Int) (f : RP) : Prop where
  p : 0 < f.2
  d : f.2 ∣ L
  lo : 0 ≤ f.1
  hi : f.1 < f.2
theorem FOk.add {L : Int} {f p : RP} (F : FOk L f) (hp : 0 < p.2) (hd : p.2 ∣ L) (h : meetB f p = true) : FOk L (crt f p) := by
  have C := crt_ok F.p hp h
  exact ⟨by rw [C.m]; exact mI_pos F.p hp, by rw [C.m]; exact mI_dvd F.p F.d hd, C.lo, C.hi⟩
theorem FOk.two {L : Int} {f p : RP} (F : FOk L f) (L0 : 0 < L) (L1 : sq L) (hp : 0 < p.2) (hd : p.2 ∣ L) (hs : sq p.1) : P2 f p := by
  have l1 := Int.le_of_dvd L0 F.d
  have l2 := Int.le_of_dvd L0 hd
  have := F.p
  have := F.lo
  have := F.hi
  exact ⟨F.p, hp, L1.le (by omega) (by omega), L1.le (by omega) l1, hs, L1.le (by omega) l2⟩
theorem joinF_cons {f p : RP} {r : List RP} : joinF f (p :: r) = if meetB f p = true then joinF (crt f p) r else none := by rw [joinF]
def sp_joined_in (K : PySem.W.Frag) : Sp := spT (fun x : Bool × List RP => RestsOk x.2) (fun x => [dt K (restsD x.1 x.2)]) (fun x => dt K (optD (joinI x.2)))
theorem ok_joined_in (T : Tx P K mg) : FnOk P w K mg base (L2.CX P w) 3 T.a_joined_in T.f_joined_in ["rests"] (sp_joined_in K) := by
  have G_joined_two := ok_joined_two (w := w) (base := base) T
  have nd := sc_joined_in.nd
  refine fn_ty T.F_joined_in sc_joined_in (fun x _ => rfl) fun cdv Ar outer s H E hr => ⟨_, (pss_cons (pset 1 nd (pe_tup (pa_cons pe_int (pa_cons pe_int pa_nil))))
    (pss_cons (ps_for PassesOwn.never rfl (k_iseq (K := K) rfl (pv 0)) (pgn 2 nd) (pss_cons (pset 1 nd (pcall G_joined_two (hr.mono (by decide)) T.D_joined_two (pa_cons (pv 1) (pa_cons (pv 2) pa_nil))))
    (pss_one (ps_if (pt_cmpR op_isN (pv 1) pe_non (nomark _)) (pss_one (ps_ret pe_non)) pss_nil))))
    (pss_one (ps_ret (pv 1))))), fun W x hC => ?_⟩
  obtain ⟨b, l⟩ := x
  have C : RestsOk l := hC
  obtain ⟨L, L0, L1, Ld⟩ := C.L
  refine tys_seqE (W' := W) (Γ' := [some (dt K (restsD b l)), some (dt K (pairD (0, 1))), none]) (tys_set (ty_tupD (ds := [.int 0, .int 1]) (by tm_at "tyad") (by show 2 ≤ 1000000; decide))) ?_
  refine tys_seqX (α := { f : RP // joinI l = some f }) (W' := fun _ => W) (Γ' := fun f => [some (dt K (restsD b l)), some (dt K (pairD f.1)), none]) ?_ fun f => TyS.never (tys_retW (Ty.is (ty_var rfl) (congrArg optD f.2).symm))
  refine tys_for (Wi := fun _ (_ : RP) => W) (Γi := fun i (f : RP) => [some (dt K (restsD b l)), some (gd (joinI l = joinF f (l.drop i) ∧ FOk L f) (dt K (pairD f))), none]) (0, 1) (tyi_seqA (xs := l) (f := pairD) (ty_var rfl)) (fun _ _ => Wd.Like.refl W) (fun σ H g => ⟨g.1, EnvL.less (by exact ⟨fun _ _ _ _ h => h, fun _ _ _ _ h => ⟨⟨rfl, by decide, Int.one_dvd _, by decide, by decide⟩, h⟩, True.intro⟩) g.2⟩) (fun i T f hT => ?_) (fun f σ H g => ?_)
  · rw [List.getElem?_map] at hT
    cases hp : l[i]? with
    | none => rw [hp] at hT; cases hT
    | some p =>
      rw [hp] at hT
      cases hT
      have me := List.mem_of_getElem? hp
      refine ⟨_, tyg_name 2, TyS.openG (n := 1) rfl fun hk => ?_⟩
      obtain ⟨k1, F⟩ := hk
      show TyS W [some (dt K (restsD b l)), some (dt K (pairD f)), some (dt K (pairD p))] _ _ _ _ _
      rw [drop_at hp, joinF_cons] at k1
      refine tys_seqE (tys_set (ty_call (f, p) (F.two L0 L1 (C.pos p me) (Ld p me) (C.b p me)) (tya_cons (ty_var rfl) (tya_cons (ty_var rfl) tya_nil)))) ?_
      show TyS W [some (dt K (restsD b l)), some (dt K (optD (jt f p))), some (dt K (pairD p))] _ _ _ _ _
      refine tys_if (φ := (· = isNoneD (optD (jt f p)))) (tt_test (ty_op (ty_var rfl) ty_non opt_isN)) (fun z => ?_) fun z => ?_
      · by_cases e : meetB f p = true
        · unfold jt at z; rw [if_pos e] at z; cases z
        · rw [if_neg e] at k1
          exact TyS.never (tys_retW (Ty.is ty_non (by show _ = optD (joinI l); rw [k1]; rfl)))
      · by_cases e : meetB f p = true
        · rw [if_pos e] at k1
          exact tys_next.imp fun σ H g => ⟨crt f p, g.1, EnvL.less (by exact ⟨fun _ _ _ _ h => h, fun _ _ _ _ h => ⟨⟨k1, F.add (C.pos p me) (Ld p me) e⟩, by unfold jt at h; rw [if_pos e] at h; exact h⟩, True.intro⟩) g.2⟩
        · unfold jt at z; rw [if_neg e] at z; cases z
  · obtain ⟨v, _, ⟨h1, _⟩, _⟩ := g.2.get (i := 1) rfl
    rw [List.length_map, List.drop_length] at h1
    exact ⟨⟨f, h1⟩, g.1, EnvL.less (by exact ⟨fun _ _ _ _ h => h, fun _ _ _ _ h => h.2, True.intro⟩) g.2⟩
end
section
variable {P : Program} {w : World} {K : PySem.W.Frag} {mg : Str → Option Value} {base : Heap}
def restC (d : PyData) (l : List RP) : Prop := areRestsD d = true → (∃ b, d = restsD b l) ∧ RestsOk l
theorem some_none {α : Type} {c : Prop} [Decidable c] {x : α} (h : (if c then none else some x) = none) : c := by
  by_cases k : c
  · exact k
  · rw [if_neg k] at h; cases h
def sp_joined (T : Tx P K mg) : Sp := spX (fun x : PyData × List RP => restC x.1 x.2) (fun x => [dt K x.1]) (fun x => rT (dt K (optD (joinI x.2)))) (fun x => if areRestsD x.1 = true then none else some ⟨T.a_InvalidRests, flG, dt K x.1⟩)
theorem ok_joined (T : Tx P K mg) : FnOk P w K mg base (L2.CX P w) 7 T.a_joined T.f_joined ["rests"] (sp_joined T) := by
  have G_check_rests := ok_check_rests (w := w) (base := base) T
  have G_joined_in := ok_joined_in (w := w) (base := base) T
  have nd := sc_joined.nd
  refine fn_tyX T.F_joined sc_joined (fun x _ => rfl) fun cdv Ar outer s H E hr => ⟨_, (pss_cons (ps_expr (pe_callS G_check_rests (hr.mono (by decide)) rfl T.D_check_rests.g T.D_check_rests.k T.D_check_rests.b (fun σ => passAt (takes_of rfl rfl rfl rfl) σ) (pa_cons (pv 0) pa_nil)))
    (pss_one (ps_ret (pcall G_joined_in (hr.mono (by decide)) T.D_joined_in (pa_cons (pv 0) pa_nil))))), fun W x hC he => ?_⟩
  obtain ⟨d, l⟩ := x
  have C : restC d l := hC
  refine tys_seqG (φ := areRestsD d = true) (tys_dropR (tyr_callX d trivial (tya_cons (ty_var rfl) tya_nil) fun b hb => he _ _ hb) fun H0 v H z => some_none z.1) fun q => ?_
  obtain ⟨⟨b, rfl⟩, ok⟩ := C q
  exact TyS.never (tys_retX (if_pos q) (Ty.tyr (ty_call (b, l) ok (tya_cons (ty_var rfl) tya_nil))))
end
section
variable {P : Program} {w : World} {K : PySem.W.Frag} {mg : Str → Option Value} {base : Heap}
def clashD : Option (Nat × Nat) → PyData
  | none => .none
  | some p => .tuple [.int (p.1 : Nat), .int (p.2 : Nat)]
theorem RestsOk.two {l : List RP} (C : RestsOk l) {p q : RP} (hp : p ∈ l) (hq : q ∈ l) : P2 p q := by
  obtain ⟨L, L0, L1, Ld⟩ := C.L
  have a := C.pos p hp
  have b := C.pos q hq
  exact ⟨a, b, C.b p hp, L1.le (by omega) (Int.le_of_dvd L0 (Ld p hp)), C.b q hq, L1.le (by omega) (Int.le_of_dvd L0 (Ld q hq))⟩
theorem getD_mem {l : List RP} {i : Nat} (h : i < l.length) : l.getD i (0, 1) ∈ l := by
  rw [List.getD_eq_getElem?_getD, List.getElem?_eq_getElem h]; exact List.getElem_mem h
theorem pair_at {l : List RP} {i : Nat} (h : i < l.length) : (l.map pairD)[i]? = some (pairD (l.getD i (0, 1))) := by
  rw [List.getElem?_map, List.getD_eq_getElem?_getD, List.getElem?_eq_getElem h]; rfl
theorem all_succ {φ : Nat → Prop} {i : Nat} (h : ∀ j, j < i → φ j) (k : φ i) : ∀ j, j < i + 1 → φ j := fun j hj => by
  by_cases e : j = i
  · rw [e]; exact k
  · exact h j (by omega)
def sp_clash (T : Tx P K mg) : Sp := spX (fun x : PyData × List RP => restC x.1 x.2) (fun x => [dt K x.1]) (fun x => rT (dt K (clashD (clashI x.2)))) (fun x => if areRestsD x.1 = true then none else some ⟨T.a_InvalidRests, flG, dt K x.1⟩)
theorem ok_clash (T : Tx P K mg) : FnOk P w K mg base (L2.CX P w) 7 T.a_clash T.f_clash ["rests"] (sp_clash T) := by
  have G_check_rests := ok_check_rests (w := w) (base := base) T
  have G_joined_two := ok_joined_two (w := w) (base := base) T
  have nd := sc_clash.nd
  refine fn_tyX T.F_clash sc_clash (fun x _ => rfl) fun cdv Ar outer s H E hr => ⟨_, (pss_cons (ps_expr (pe_callS G_check_rests (hr.mono (by decide)) rfl T.D_check_rests.g T.D_check_rests.k T.D_check_rests.b (fun σ => passAt (takes_of rfl rfl rfl rfl) σ) (pa_cons (pv 0) pa_nil)))
    (pss_cons (ps_for (passes_of rfl) rfl (pi_range1 rfl T.m_range (pa_cons (k_len (K := K) rfl T.m_len (pa_cons (pv 0) pa_nil)) pa_nil)) (pgn 1 nd) (pss_one (ps_for (passes_of rfl) rfl (pi_range1 rfl T.m_range (pa_cons (pv 1) pa_nil)) (pgn 2 nd) (pss_one (ps_if (pt_cmpR op_isN (pcall G_joined_two (hr.mono (by decide)) T.D_joined_two (pa_cons (pe_ix (k_ix (K := K) rfl) (pv 0) (pv 2) (fun _ _ => rfl)) (pa_cons (pe_ix (k_ix (K := K) rfl) (pv 0) (pv 1) (fun _ _ => rfl)) pa_nil))) pe_non (nomark _)) (pss_one (ps_ret (pe_tup (pa_cons (pv 2) (pa_cons (pv 1) pa_nil))))) pss_nil)))))
    (pss_one (ps_ret pe_non)))), fun W x hC he => ?_⟩
  obtain ⟨d, l⟩ := x
  have C : restC d l := hC
  refine tys_seqG (φ := areRestsD d = true) (tys_dropR (tyr_callX d trivial (tya_cons (ty_var rfl) tya_nil) fun b hb => he _ _ hb) fun H0 v H z => some_none z.1) fun q => ?_
  obtain ⟨⟨b, rfl⟩, ok⟩ := C q
  have hφ : (if areRestsD (restsD b l) = true then (none : Option Bad) else some ⟨T.a_InvalidRests, flG, dt K (restsD b l)⟩) = none := if_pos q
  show TyS W [some (dt K (restsD b l)), none, none] _ _ _ _ _
  refine tys_seqE (W' := W) (Γ' := [some (gd (∀ j, j < l.length → clashJ l j = none) (dt K (restsD b l))), none, none]) ?_ (TyS.never (TyS.openG (n := 0) rfl fun h => tys_retX hφ (Ty.tyr (Ty.is ty_non (by show _ = clashD (clashI l); rw [clash_none.mpr h]; rfl)))))
  refine tys_for (Wi := fun _ (_ : Unit) => W) (Γi := fun j (_ : Unit) => [some (gd (∀ j', j' < j → clashJ l j' = none) (dt K (restsD b l))), none, none]) () (tyi_rng (n := l.length) (tya_cons (Ty.is (ty_lenSeq (ds := l.map pairD) (ty_var rfl)) (by rw [List.length_map])) tya_nil) (by have := ok.n; omega)) (fun _ _ => Wd.Like.refl W) (fun σ H g => ⟨g.1, EnvL.less (by exact ⟨fun _ _ _ _ h => ⟨fun _ z => absurd z (Nat.not_lt_zero _), h⟩, True.intro⟩) g.2⟩) (fun j T' _ hT => ?_) (fun _ σ H g => by
    rw [List.length_map, List.length_range] at g
    exact g)
  obtain ⟨hj, rfl⟩ := range_map_get hT
  refine ⟨_, tyg_name 1, TyS.openG (n := 0) rfl fun hk => ?_⟩
  show TyS W [some (dt K (restsD b l)), some (dt K (.int (j : Nat))), none] _ _ _ _ _
  refine tys_for (Wi := fun _ (_ : Unit) => W) (Γi := fun i (_ : Unit) => [some (gd (∀ i', i' < i → pairs l i' j = true) (dt K (restsD b l))), some (dt K (.int (j : Nat))), none]) () (tyi_rng (n := j) (tya_cons (ty_var rfl) tya_nil) (by have := ok.n; omega)) (fun _ _ => Wd.Like.refl W) (fun σ H g => ⟨g.1, EnvL.less (by exact ⟨fun _ _ _ _ h => ⟨fun _ z => absurd z (Nat.not_lt_zero _), h⟩, fun _ _ _ _ h => h, True.intro⟩) g.2⟩) (fun i T' _ hT => ?_) (fun _ σ H g => ?_)
  · obtain ⟨hi, rfl⟩ := range_map_get hT
    refine ⟨_, tyg_name 2, TyS.openG (n := 0) rfl fun hk2 => ?_⟩
    show TyS W [some (dt K (restsD b l)), some (dt K (.int (j : Nat))), some (dt K (.int (i : Nat)))] _ _ _ _ _
    have mi := getD_mem (l := l) (i := i) (by omega)
    have mj := getD_mem (l := l) (i := j) hj
    refine tys_if (φ := (· = isNoneD (optD (jt (l.getD i (0, 1)) (l.getD j (0, 1)))))) (tt_test (ty_op (ty_call (l.getD i (0, 1), l.getD j (0, 1)) (ok.two mi mj) (tya_cons (ty_op (ty_var rfl) (ty_var rfl) (opt_ixSeq (pair_at (by omega)))) (tya_cons (ty_op (ty_var rfl) (ty_var rfl) (opt_ixSeq (pair_at hj))) tya_nil))) ty_non opt_isN)) (fun z => ?_) fun z => ?_
    · have e : pairs l i j = false := by
        unfold pairs
        unfold jt at z
        by_cases e : meetB (l.getD i (0, 1)) (l.getD j (0, 1)) = true
        · rw [if_pos e] at z; cases z
        · exact Bool.eq_false_iff.mpr e
      exact TyS.never (tys_retX hφ (Ty.tyr (Ty.is (ty_tupD (ds := [.int (i : Nat), .int (j : Nat)]) (tya_cons (ty_var rfl) (tya_cons (ty_var rfl) tya_nil)) (by show 2 ≤ 1000000; decide)) (by show _ = clashD (clashI l); rw [clash_some hj (clashJ_some hi e hk2) hk]; rfl))))
    · have e : pairs l i j = true := by
        unfold pairs
        unfold jt at z
        by_cases e : meetB (l.getD i (0, 1)) (l.getD j (0, 1)) = true
        · exact e
        · rw [if_neg e] at z; cases z
      exact tys_next.imp fun σ H g => ⟨(), g.1, EnvL.less (by exact ⟨fun _ _ _ _ h => ⟨all_succ hk2 e, h⟩, fun _ _ _ _ h => h, True.intro⟩) g.2⟩
  · rw [List.length_map, List.length_range] at g
    exact ⟨(), g.1, EnvL.less (by exact ⟨fun _ _ _ _ h => ⟨all_succ hk (clashJ_none.mpr h.1), h.2⟩, True.intro⟩) g.2⟩
end
section
variable {P : Program} {w : World} {K : PySem.W.Frag} {mg : Str → Option Value} {base : Heap}
structure Nin (f : RP) (b : Int) : Prop where
  p : 0 < f.2
  f1 : sq f.1
  f2 : sq f.2
  b0 : 0 ≤ b
  b1 : sq b
def numTs (K : PySem.W.Frag) (l : List Int) : List Typ := l.map fun n => dt K (.int n)
theorem if_yes {α : Type} {c : Prop} [Decidable c] {x : α} (h : c) : (if c then some x else none) = some x := if_pos h
def sp_numbers_in (T : Tx P K mg) : Sp := spX (fun x : RP × Int => Nin x.1 x.2) (fun x => [dt K (pairD x.1), dt K (.int x.2)]) (fun x => rNew (numTs K (numsI x.1 x.2))) (fun x => if 1000 < manyI x.1 x.2 then some ⟨T.a_TooMany, flC, dt K (.int (manyI x.1 x.2))⟩ else none)
theorem ok_numbers_in (T : Tx P K mg) : FnOk P w K mg base (L2.CX P w) 6 T.a_numbers_in T.f_numbers_in ["found", "bound"] (sp_numbers_in T) := by
  have nd := sc_numbers_in.nd
  refine fn_tyX T.F_numbers_in sc_numbers_in (fun x _ => rfl) fun cdv Ar outer s H E hr => ⟨_, (pss_cons (pset 2 nd (pe_op op_sub (pe_ix (k_ix (K := K) rfl) (pv 0) pe_int (fun _ _ => rfl)) (pe_op op_mulA (pe_op op_divA (pe_op (k_add (K := K) rfl) (pe_ix (k_ix (K := K) rfl) (pv 0) pe_int (fun _ _ => rfl)) (pv 1)) (pe_ix (k_ix (K := K) rfl) (pv 0) pe_int (fun _ _ => rfl))) (pe_ix (k_ix (K := K) rfl) (pv 0) pe_int (fun _ _ => rfl)))))
    (pss_cons (pset 3 nd (pe_op (k_add (K := K) rfl) (pe_op op_divA (pe_op op_sub (pv 1) (pv 2)) (pe_ix (k_ix (K := K) rfl) (pv 0) pe_int (fun _ _ => rfl))) pe_int))
    (pss_cons (ps_if (pt_cmpR op_gt (pv 3) (pglob T.g_MOST_TOLD) (nomark _)) (pss_one (ps_raiseN (by decide) rfl T.base T.c_TooMany T.o_TooMany hr (takes_of rfl rfl rfl rfl) (pa_cons (pv 3) pa_nil))) pss_nil)
    (pss_one (ps_ret (plc [("turn", 4)] nd (pi_range1 rfl T.m_range (pa_cons (pv 3) pa_nil)) (fun _ _ _ _ _ => (pgn 4 nd)) (fun _ _ _ _ _ => pts_nil) (fun _ _ _ _ _ => (pe_op (k_add (K := K) rfl) (pv 2) (pe_op op_mulA (pv 4) (pe_ix (k_ix (K := K) rfl) (pv 0) pe_int (fun _ _ => rfl))))) (by kernel_rfl))))))), fun W x hC he => ?_⟩
  obtain ⟨f, b⟩ := x
  have C : Nin f b := hC
  have b1 : bd 401 (f.1 + b) := C.f1.add C.b1
  have ml := many_lo C.p C.b0
  refine tys_seqE (W' := W) (Γ' := [some (dt K (pairD f)), some (dt K (.int b)), some (dt K (.int (firstI f b))), none, none]) (tys_set (ty_op (ty_p1 (ty_var rfl)) (ty_op (ty_op (ty_op (ty_p1 (ty_var rfl)) (ty_var rfl) opt_add) (ty_p2 (ty_var rfl)) (opt_div (C.f2.div_ok C.p (by decide)))) (ty_p2 (ty_var rfl)) (opt_mulW ((b1.div C.p).mul_ok C.f2 (by decide)))) opt_sub)) ?_
  refine tys_seqE (W' := W) (Γ' := [some (dt K (pairD f)), some (dt K (.int b)), some (dt K (.int (firstI f b))), some (dt K (.int (manyI f b))), none]) (tys_set (ty_op (ty_op (ty_op (ty_var rfl) (ty_var rfl) opt_sub) (ty_p2 (ty_var rfl)) (opt_div (C.f2.div_ok C.p (by decide)))) ty_int opt_add)) ?_
  refine tys_guard (φ := (· = decide (1000 < manyI f b))) (tt_test (ty_op (ty_var rfl) ty_int opt_gt)) (fun z => ?_) fun z => ?_
  · exact tys_raiseC (T := dt K (.int (manyI f b))) (ty_var rfl) (he _ _ (if_pos (of_decide_eq_true z.symm)))
  · have z1 := of_decide_eq_false z.symm
    have h : TyL W [some (dt K (pairD f)), some (dt K (.int b)), some (dt K (.int (firstI f b))), some (dt K (.int (manyI f b))), none] (tLc (iRng1 (tCons (tVar 3) tNil)) (gName 4) tYes (tOp (rAddA K) (tVar 2) (tOp rMulA (tVar 4) (tOp (rIx K) (tVar 0) (tC (V.int 1))))) [4]) ((List.range (manyI f b).toNat).map fun t : Nat => dt K (.int (firstI f b + (t : Int) * f.2))) :=
      tyl_map (fun i : Nat => dt K (.int (i : Nat))) _ (tyi_rng1 (tya_cons (ty_var rfl) tya_nil) (by omega) (by omega)) (by rw [List.length_range]; omega) (by decide) fun W' t ht => by
        have : t < (manyI f b).toNat := List.mem_range.mp ht
        exact ty_op (ty_var rfl) (ty_op (ty_var rfl) (ty_p2 (ty_var rfl)) (opt_mul (.inl ⟨by omega, by omega⟩))) opt_add
    have e : ((List.range (manyI f b).toNat).map fun t : Nat => dt K (.int (firstI f b + (t : Int) * f.2))) = numTs K (numsI f b) := by unfold numTs numsI; rw [List.map_map]; rfl
    rw [e] at h
    exact TyS.never (tys_retX (if_neg z1) h.tyr)
end
section
variable {P : Program} {w : World} {K : PySem.W.Frag} {mg : Str → Option Value} {base : Heap}
noncomputable def numsO (l : List RP) (b : Int) : List Int := match joinI l with
  | none => []
  | some f => numsI f b
noncomputable def manyO (l : List RP) (b : Int) : Int := match joinI l with
  | none => 0
  | some f => manyI f b
def nwC (x : PyData × PyData × List RP × Int) : Prop := restC x.1 x.2.2.1 ∧ (boundOk x.2.1 = true → x.2.1 = .int x.2.2.2 ∧ sq x.2.2.2)
theorem join_ok {l : List RP} (C : RestsOk l) {f : RP} (h : joinI l = some f) : 0 < f.2 ∧ sq f.1 ∧ sq f.2 := by
  obtain ⟨L, L0, L1, Ld⟩ := C.L
  have R := join_some rep_nil C.pos h
  rw [List.nil_append] at R
  have l1 := Int.le_of_dvd L0 (R.l L Ld)
  have := R.pos
  have := R.lo
  have := R.hi
  exact ⟨R.pos, L1.le (by omega) (by omega), L1.le (by omega) l1⟩
def sp_numbers_with (T : Tx P K mg) : Sp := spX nwC (fun x => [dt K x.1, dt K x.2.1]) (fun x => rNew (numTs K (numsO x.2.2.1 x.2.2.2)))
  (fun x => if areRestsD x.1 = true then (if boundOk x.2.1 = true then (if 1000 < manyO x.2.2.1 x.2.2.2 then some ⟨T.a_TooMany, flC, dt K (.int (manyO x.2.2.1 x.2.2.2))⟩ else none) else some ⟨T.a_InvalidBound, flG, dt K x.2.1⟩) else some ⟨T.a_InvalidRests, flG, dt K x.1⟩)
theorem ok_numbers_with (T : Tx P K mg) : FnOk P w K mg base (L2.CX P w) 7 T.a_numbers_with T.f_numbers_with ["rests", "bound"] (sp_numbers_with T) := by
  have G_check_rests := ok_check_rests (w := w) (base := base) T
  have G_check_bound := ok_check_bound (w := w) (base := base) T
  have G_joined_in := ok_joined_in (w := w) (base := base) T
  have G_numbers_in := ok_numbers_in (w := w) (base := base) T
  have nd := sc_numbers_with.nd
  refine fn_tyX T.F_numbers_with sc_numbers_with (fun x _ => rfl) fun cdv Ar outer s H E hr => ⟨_, (pss_cons (ps_expr (pe_callS G_check_rests (hr.mono (by decide)) rfl T.D_check_rests.g T.D_check_rests.k T.D_check_rests.b (fun σ => passAt (takes_of rfl rfl rfl rfl) σ) (pa_cons (pv 0) pa_nil)))
    (pss_cons (ps_expr (pe_callS G_check_bound (hr.mono (by decide)) rfl T.D_check_bound.g T.D_check_bound.k T.D_check_bound.b (fun σ => passAt (takes_of rfl rfl rfl rfl) σ) (pa_cons (pv 1) pa_nil)))
    (pss_cons (pset 2 nd (pcall G_joined_in (hr.mono (by decide)) T.D_joined_in (pa_cons (pv 0) pa_nil)))
    (pss_one (ps_ret (pe_ifExp (pt_cmpR op_isN (pv 2) pe_non (nomark _)) (pe_lst pa_nil) (pe_callS G_numbers_in (hr.mono (by decide)) rfl T.D_numbers_in.g T.D_numbers_in.k T.D_numbers_in.b (fun σ => passAt (takes_of rfl rfl rfl rfl) σ) (pa_cons (pv 2) (pa_cons (pv 1) pa_nil))))))))), fun W x hC he => ?_⟩
  obtain ⟨d, e, l, n⟩ := x
  obtain ⟨C, D⟩ : restC d l ∧ (boundOk e = true → e = .int n ∧ sq n) := hC
  dsimp only at he ⊢
  refine tys_seqG (φ := areRestsD d = true) (tys_dropR (tyr_callX d trivial (tya_cons (ty_var rfl) tya_nil) fun b hb => ?_) fun H0 v H z => some_none z.1) fun q => ?_
  · by_cases q : areRestsD d = true
    · rw [if_pos q] at hb; cases hb
    · rw [if_neg q] at hb
      exact he _ _ (by rw [if_neg q]; exact hb)
  rw [if_pos q] at he ⊢
  refine tys_seqG (φ := boundOk e = true) (tys_dropR (tyr_callX e trivial (tya_cons (ty_var rfl) tya_nil) fun b hb => ?_) fun H0 v H z => some_none z.1) fun q2 => ?_
  · by_cases q2 : boundOk e = true
    · rw [if_pos q2] at hb; cases hb
    · rw [if_neg q2] at hb
      exact he _ _ (by rw [if_neg q2]; exact hb)
  rw [if_pos q2] at he ⊢
  obtain ⟨⟨b, rfl⟩, ok⟩ := C q
  obtain ⟨rfl, sn⟩ := D q2
  have n0 : 0 ≤ n := of_decide_eq_true q2
  refine tys_seqE (tys_set (ty_call (b, l) ok (tya_cons (ty_var rfl) tya_nil))) ?_
  show TyS W [some (dt K (restsD b l)), some (dt K (.int n)), some (dt K (optD (joinI l)))] _ _ _ _ _
  cases hj : joinI l with
  | none =>
    have e1 : numsO l n = [] := by unfold numsO; rw [hj]
    have e2 : manyO l n = 0 := by unfold manyO; rw [hj]
    rw [e1]
    rw [e2] at he ⊢
    refine TyS.never (tys_retX (if_neg (by decide)) (TyL.tyr (tyl_if (φ := (· = true)) (by tm_at "ttis") (fun _ => tyl_lst tya_nil (by show 0 ≤ 1000000; decide)) fun z => Bool.noConfusion z)))
  | some f =>
    have e1 : numsO l n = numsI f n := by unfold numsO; rw [hj]
    have e2 : manyO l n = manyI f n := by unfold manyO; rw [hj]
    rw [e1]
    rw [e2] at he ⊢
    obtain ⟨f1, f2, f3⟩ := join_ok ok hj
    exact TyS.never (tys_retXG (tyr_if (φ := (· = false)) (Tt.is (tt_test (ty_op (ty_var rfl) ty_non (opt_isN (d := pairD f)))) rfl) (fun z => Bool.noConfusion z) fun _ => tyr_callX (f, n) ⟨f1, f2, f3, n0, sn⟩ (tya_cons (ty_var rfl) (tya_cons (ty_var rfl) tya_nil)) fun b hb => he _ _ hb) fun H0 v H z => z)
end
section
variable {P : Program} {w : World} {K : PySem.W.Frag} {mg : Str → Option Value} {base : Heap}
def sp_law_common (K : PySem.W.Frag) : Sp := spT (fun x : Int × Int => 0 < x.1 ∧ 0 < x.2) (fun x => [dt K (.int x.1), dt K (.int x.2)]) (fun x => dt K (.int (gI x.1 x.2)))
theorem ok_law_common (T : Tx P K mg) : FnOk P w K mg base (L2.CX P w) 1 T.a_law_common T.f_law_common ["a", "b"] (sp_law_common K) := by
  have nd := sc_law_common.nd
  refine fn_ty T.F_law_common sc_law_common (fun x _ => rfl) fun cdv Ar outer s H E hr => ⟨_, (pss_cons (ps_par (i := 0) (j := 1) rfl nd rfl rfl (by decide) rfl rfl (pa_cons (bi_abs T.m_abs (pa_cons (pv 0) pa_nil)) (pa_cons (bi_abs T.m_abs (pa_cons (pv 1) pa_nil)) pa_nil)) (by rfl))
    (pss_cons (ps_while PassesOwn.never (pt_cmpR (k_ne (K := K) rfl hr.units) (pv 1) pe_int (nomark _)) (pss_one (ps_par (i := 0) (j := 1) rfl nd rfl rfl (by decide) rfl rfl (pa_cons (pv 1) (pa_cons (pe_op op_mod (bi_int T.m_int (pa_cons (pv 0) pa_nil)) (pv 1)) pa_nil)) (by rfl))))
    (pss_one (ps_ret (pv 0))))), fun W x hC => ?_⟩
  obtain ⟨a, b⟩ := x
  obtain ⟨h1, h2⟩ : 0 < a ∧ 0 < b := hC
  refine tys_seqE (W' := W) (Γ' := [some (dt K (.int a)), some (dt K (.int b))]) ((tys_par (tya_cons (ty_cb (tya_cons (ty_var rfl) tya_nil) cbt_abs) (tya_cons (ty_cb (tya_cons (ty_var rfl) tya_nil) cbt_abs) tya_nil))).imp fun σ H g => ⟨g.1, EnvL.less (by exact ⟨fun _ _ _ _ h => by rw [if_neg (by omega)] at h; exact h, fun _ _ _ _ h => by rw [if_neg (by omega)] at h; exact h, True.intro⟩) g.2⟩) ?_
  refine tys_seqX (α := { s : Int × Int // 0 ≤ s.1 ∧ gI s.1 s.2 = gI a b ∧ s.2 = 0 }) (W' := fun _ => W) (Γ' := fun s => [some (dt K (.int s.1.1)), some (dt K (.int s.1.2))]) ?_ fun s => TyS.never (tys_retW (Ty.is (ty_var rfl) ?_))
  · refine tys_while (fun s : Int × Int => 0 ≤ s.1 ∧ 0 ≤ s.2 ∧ gI s.1 s.2 = gI a b) (fun s => [some (dt K (.int s.1)), some (dt K (.int s.2))]) (fun s => s.2.toNat) (a, b) ⟨by show 0 ≤ a; omega, by show 0 ≤ b; omega, rfl⟩ (fun σ H g => g) fun s I => ⟨(· = !decide (s.2 = 0)), tt_test (ty_op (ty_var rfl) ty_int opt_neI), fun z => ?_, fun z σ H g => ⟨⟨s, I.1, I.2.2, by simpa using z⟩, g⟩⟩
    have nz : s.2 ≠ 0 := by simpa using z
    have p : 0 < s.2 := by have := I.2.1; omega
    have m1 := Int.emod_nonneg s.1 nz
    have m2 := Int.emod_lt_of_pos s.1 p
    exact TyS.imp (tys_par (tya_cons (ty_var rfl) (tya_cons (ty_op (ty_cb (tya_cons (ty_var rfl) tya_nil) cbt_intI) (ty_var rfl) (opt_mod p)) tya_nil))) fun σ H g => ⟨(s.2, s.1 % s.2), ⟨by show 0 ≤ s.2; omega, m1, by show gI s.2 (s.1 % s.2) = _; rw [gI_mod]; exact I.2.2⟩, by show (s.1 % s.2).toNat < s.2.toNat; omega, g.1, EnvL.less (by exact ⟨fun _ _ _ _ h => h, fun _ _ _ _ h => h, True.intro⟩) g.2⟩
  · obtain ⟨s, h3, h4, h5⟩ := s
    have e : s.1 = gI a b := by rw [← h4, h5]; exact (gI_zero h3).symm
    exact congrArg PyData.int e
end
section
variable {P : Program} {w : World} {K : PySem.W.Frag} {mg : Str → Option Value} {base : Heap}
def sp_law_do_meet (K : PySem.W.Frag) : Sp := spT (fun x : RP × RP => 0 < x.1.2 ∧ 0 < x.2.2) (fun x => [dt K (pairD x.1), dt K (pairD x.2)]) (fun x => dt K (.bool (meetB x.1 x.2)))
theorem ok_law_do_meet (T : Tx P K mg) : FnOk P w K mg base (L2.CX P w) 2 T.a_law_do_meet T.f_law_do_meet ["one", "other"] (sp_law_do_meet K) := by
  have G_law_common := ok_law_common (w := w) (base := base) T
  have nd := sc_law_do_meet.nd
  refine fn_ty T.F_law_do_meet sc_law_do_meet (fun x _ => rfl) fun cdv Ar outer s H E hr => ⟨_, (pss_one (ps_ret (pe_cmpR (k_eq (K := K) rfl hr.units) (pe_op op_mod (bi_int T.m_int (pa_cons (pe_op op_sub (pe_ix (k_ix (K := K) rfl) (pv 0) pe_int (fun _ _ => rfl)) (pe_ix (k_ix (K := K) rfl) (pv 1) pe_int (fun _ _ => rfl))) pa_nil)) (pcall G_law_common (hr.mono (by decide)) T.D_law_common (pa_cons (pe_ix (k_ix (K := K) rfl) (pv 0) pe_int (fun _ _ => rfl)) (pa_cons (pe_ix (k_ix (K := K) rfl) (pv 1) pe_int (fun _ _ => rfl)) pa_nil)))) pe_int (nomark _)))), fun W x hC => ?_⟩
  obtain ⟨p, q⟩ := x
  obtain ⟨h1, h2⟩ : 0 < p.2 ∧ 0 < q.2 := hC
  exact TyS.never (tys_retW (Ty.is (ty_op (ty_op (ty_cb (tya_cons (ty_op (ty_p1 (p := p) (ty_var rfl)) (ty_p1 (p := q) (ty_var rfl)) opt_sub) tya_nil) cbt_intI) (ty_call (p.2, q.2) ⟨h1, h2⟩ (tya_cons (ty_p2 (p := p) (ty_var rfl)) (tya_cons (ty_p2 (p := q) (ty_var rfl)) tya_nil))) (opt_mod (gI_pos h1))) ty_int opt_eqI) (congrArg PyData.bool meet_flip.symm)))
end
section
variable {P : Program} {w : World} {K : PySem.W.Frag} {mg : Str → Option Value} {base : Heap}
def lshT (K : PySem.W.Frag) (one other : Int) : Typ := exT fun s : Int => gd (Share one other s ∧ sq s) (dt K (linD [gI one other, s]))
structure ShaI (one other : Int) (s : Int × Int × Int × Int) : Prop where
  g : EucG one other s.1 s.2.1
  bx : EucB other s.1 s.2.2.1 s.2.1 s.2.2.2
  l0 : Lin one other s.1 s.2.2.1
  l1 : Lin one other s.2.1 s.2.2.2
theorem tyg_quad {W : Wd} {Γ : Gam} {K : PySem.W.Frag} {i j k l : Nat} {A B C D : Typ} : TyG W Γ (gTup K 4 (gCons (gName i) (gCons (gName j) (gCons (gName k) (gCons (gName l) gNil))))) (tupT K [A, B, C, D]) ((((Γ.set i (some A)).set j (some B)).set k (some C)).set l (some D)) :=
  tyg_tup (tygs_cons (tyg_name i) (tygs_cons (tyg_name j) (tygs_cons (tyg_name k) (tygs_cons (tyg_name l) tygs_nil))))
def shaG (K : PySem.W.Frag) (one other : Int) (s : Int × Int × Int × Int) : Gam := [some (dt K (.int one)), some (dt K (.int other)), some (dt K (.int s.1)), some (dt K (.int s.2.1)), some (dt K (.int s.2.2.1)), some (dt K (.int s.2.2.2)), none]
def sp_law_share (K : PySem.W.Frag) : Sp := spT twoC (fun x => [dt K (.int x.1), dt K (.int x.2)]) (fun x => lshT K x.1 x.2)
theorem ok_law_share (T : Tx P K mg) : FnOk P w K mg base (L2.CX P w) 1 T.a_law_share T.f_law_share ["one", "other"] (sp_law_share K) := by
  have nd := sc_law_share.nd
  refine fn_ty T.F_law_share sc_law_share (fun x _ => rfl) fun cdv Ar outer s H E hr => ⟨_, (pss_cons (ps_asg (pe_tup (pa_cons (pv 0) (pa_cons (pv 1) (pa_cons pe_int (pa_cons pe_int pa_nil))))) (k_gtup (K := K) (n := 4) rfl (pgs_cons (pgn 2 nd) (pgs_cons (pgn 3 nd) (pgs_cons (pgn 4 nd) (pgs_cons (pgn 5 nd) pgs_nil))))))
    (pss_cons (ps_while PassesOwn.never (pt_cmpR (k_ne (K := K) rfl hr.units) (pv 3) pe_int (nomark _)) (pss_cons (pset 6 nd (pe_op op_divA (pv 2) (pv 3)))
    (pss_one (ps_asg (pe_tup (pa_cons (pv 3) (pa_cons (pe_op op_sub (pv 2) (pe_op op_mulA (pv 6) (pv 3))) (pa_cons (pv 5) (pa_cons (pe_op op_sub (pv 4) (pe_op op_mulA (pv 6) (pv 5))) pa_nil))))) (k_gtup (K := K) (n := 4) rfl (pgs_cons (pgn 2 nd) (pgs_cons (pgn 3 nd) (pgs_cons (pgn 4 nd) (pgs_cons (pgn 5 nd) pgs_nil)))))))))
    (pss_one (ps_ret (pe_lst (pa_cons (pv 2) (pa_cons (pv 4) pa_nil))))))), fun W x hC => ?_⟩
  obtain ⟨one, other⟩ := x
  obtain ⟨h1, h2, h3, h4⟩ : 0 < one ∧ 0 < other ∧ sq one ∧ sq other := hC
  refine tys_seqE (W' := W) (Γ' := shaG K one other (one, other, 1, 0)) (tys_asg (ty_tup (tya_cons (ty_var rfl) (tya_cons (ty_var rfl) (tya_cons (ty_int (K := K)) (tya_cons (ty_int (K := K)) tya_nil)))) (by show 4 ≤ 1000000; decide)) tyg_quad) ?_
  refine tys_seqX (α := { s : Int × Int × Int × Int // ShaI one other s ∧ s.2.1 = 0 }) (W' := fun _ => W) (Γ' := fun s => shaG K one other s.1) ?_ fun s => ?_
  · refine tys_while (ShaI one other) (shaG K one other) (fun s => s.2.1.toNat) (one, other, 1, 0) ⟨.start h1 h2, ⟨by first | (simp; done) | (simp; omega), by first | (simp; done) | (simp; omega), by first | (simp; done) | (simp; omega)⟩, ⟨0, by simp⟩, ⟨1, by simp⟩⟩ (fun σ H g => g) fun s I => ⟨(· = !decide (s.2.1 = 0)), tt_test (ty_op (ty_var rfl) ty_int opt_neI), fun z => ?_, fun z σ H g => ⟨⟨s, I, by simpa using z⟩, g⟩⟩
    have nz : s.2.1 ≠ 0 := by simpa using z
    have p1 : 0 < s.2.1 := by have := I.g.p1; omega
    have b2 : bd 401 (one + other) := h3.add h4
    have b0 : bd 401 s.1 := b2.le (by have := I.g.p0; omega) I.g.s0
    have b1 : bd 401 s.2.1 := b2.le (by omega) I.g.s1
    have q := quo I.g.p0 p1
    have bc : bd 401 (s.1 / s.2.1) := b0.le q.1 q.2.1
    have b5 : bd 401 s.2.2.2 := bd_of I.bx.b1 (h4.mono (by decide))
    refine tys_seqE (tys_set (ty_op (ty_var rfl) (ty_var rfl) (opt_div (bd.div_ok p1 b1 (by decide))))) ?_
    refine TyS.imp (tys_asg (ty_tup (tya_cons (ty_var rfl) (tya_cons (ty_op (ty_var rfl) (ty_op (ty_var rfl) (ty_var rfl) (opt_mulW (bc.mul_ok b1 (by decide)))) opt_sub) (tya_cons (ty_var rfl) (tya_cons (ty_op (ty_var rfl) (ty_op (ty_var rfl) (ty_var rfl) (opt_mulW (bc.mul_ok b5 (by decide)))) opt_sub) tya_nil)))) (by show 4 ≤ 1000000; decide)) tyg_quad) fun σ H g => ⟨(s.2.1, s.1 - s.1 / s.2.1 * s.2.1, s.2.2.2, s.2.2.1 - s.1 / s.2.1 * s.2.2.2), ⟨I.g.step p1, I.bx.step I.g.p0 p1, I.l1, I.l0.step I.l1 _⟩, by show (s.1 - s.1 / s.2.1 * s.2.1).toNat < s.2.1.toNat; omega, g.1, EnvL.less (by exact ⟨fun _ _ _ _ h => h, fun _ _ _ _ h => h, fun _ _ _ _ h => h, fun _ _ _ _ h => h, fun _ _ _ _ h => h, fun _ _ _ _ h => h, True.intro⟩) g.2⟩
  · obtain ⟨s, I, z⟩ := s
    refine TyS.never (tys_retW (Ty.sub (ty_lstD (ds := [.int s.1, .int s.2.2.1]) (tya_cons (ty_var rfl) (tya_cons (ty_var rfl) tya_nil)) (by show 2 ≤ 1000000; decide)) fun v H _ hv => ?_))
    have e := share_end (z ▸ I.g) I.l0
    exact ⟨s.2.2.1, ⟨e.2, bd_of I.bx.b0 h4⟩, by rw [← e.1]; exact hv⟩
end
section
variable {P : Program} {w : World} {K : PySem.W.Frag} {mg : Str → Option Value} {base : Heap}
theorem tyg_un2 {W : Wd} {Γ : Gam} {K : PySem.W.Frag} {i j : Nat} {a b : Int} : TyG W Γ (gUnl K 2 (gCons (gName i) (gCons (gName j) gNil))) (dt K (linD [a, b])) ((Γ.set i (some (dt K (.int a)))).set j (some (dt K (.int b)))) :=
  (tyg_unl (Ts := [dt K (.int a), dt K (.int b)]) (tygs_cons (tyg_name i) (tygs_cons (tyg_name j) tygs_nil))).sub fun v H z => data_lstT (ds := [.int a, .int b]) z
def sp_law_step (K : PySem.W.Frag) : Sp := spT (fun x : RP × RP => P2 x.1 x.2 ∧ meetB x.1 x.2 = true) (fun x => [dt K (pairD x.1), dt K (pairD x.2)]) (fun x => dt K (pairD (crt x.1 x.2)))
theorem ok_law_step (T : Tx P K mg) : FnOk P w K mg base (L2.CX P w) 2 T.a_law_step T.f_law_step ["one", "other"] (sp_law_step K) := by
  have G_law_share := ok_law_share (w := w) (base := base) T
  have nd := sc_law_step.nd
  refine fn_ty T.F_law_step sc_law_step (fun x _ => rfl) fun cdv Ar outer s H E hr => ⟨_, (pss_cons (ps_asg (pcall G_law_share (hr.mono (by decide)) T.D_law_share (pa_cons (pe_ix (k_ix (K := K) rfl) (pv 0) pe_int (fun _ _ => rfl)) (pa_cons (pe_ix (k_ix (K := K) rfl) (pv 1) pe_int (fun _ _ => rfl)) pa_nil))) (k_gunl (K := K) (n := 2) rfl (pgs_cons (pgn 2 nd) (pgs_cons (pgn 3 nd) pgs_nil))))
    (pss_cons (pset 4 nd (pe_op op_divA (pe_ix (k_ix (K := K) rfl) (pv 1) pe_int (fun _ _ => rfl)) (pv 2)))
    (pss_cons (pset 5 nd (pe_op op_mod (bi_int T.m_int (pa_cons (pe_op op_mulA (pe_op op_divA (pe_op op_sub (pe_ix (k_ix (K := K) rfl) (pv 1) pe_int (fun _ _ => rfl)) (pe_ix (k_ix (K := K) rfl) (pv 0) pe_int (fun _ _ => rfl))) (pv 2)) (pv 3)) pa_nil)) (pv 4)))
    (pss_cons (pset 6 nd (pe_op op_mulA (pe_ix (k_ix (K := K) rfl) (pv 0) pe_int (fun _ _ => rfl)) (pv 4)))
    (pss_one (ps_ret (pe_tup (pa_cons (pe_op op_mod (bi_int T.m_int (pa_cons (pe_op (k_add (K := K) rfl) (pe_ix (k_ix (K := K) rfl) (pv 0) pe_int (fun _ _ => rfl)) (pe_op op_mulA (pe_ix (k_ix (K := K) rfl) (pv 0) pe_int (fun _ _ => rfl)) (pv 5))) pa_nil)) (pv 6)) (pa_cons (pv 6) pa_nil))))))))), fun W x hC => ?_⟩
  obtain ⟨p, q⟩ := x
  obtain ⟨C, e⟩ : P2 p q ∧ meetB p q = true := hC
  have g0 := gI_pos (b := q.2) C.p0
  have gb := gI_sq (b := q.2) C.p0 C.p2
  refine tys_seqX (W' := fun _ => W) (tys_asgX (φ := fun s : Int => Share p.2 q.2 s ∧ sq s) (A := fun s => dt K (linD [gI p.2 q.2, s])) (Γ' := fun s => [some (dt K (pairD p)), some (dt K (pairD q)), some (dt K (.int (gI p.2 q.2))), some (dt K (.int s)), none, none, none]) (ty_call (p.2, q.2) ⟨C.p0, C.q0, C.p2, C.q2⟩ (tya_cons (ty_p2 (p := p) (ty_var rfl)) (tya_cons (ty_p2 (p := q) (ty_var rfl)) tya_nil))) fun s => tyg_un2) fun s => ?_
  obtain ⟨x, hs, hx⟩ := s
  dsimp only
  have cp := crt_law C.p0 C.q0 e hs
  have b1 : bd 400 (q.2 / gI p.2 q.2) := C.q2.div g0
  have b2 : bd 401 (q.1 - p.1) := C.q1.sub C.p1
  have b3 : bd 401 ((q.1 - p.1) / gI p.2 q.2) := b2.div g0
  have mp := mI_pos C.p0 C.q0
  obtain ⟨k, l, k1, k2, k3, k4, k5, k6, k7⟩ := gI_parts (b := q.2) C.p0
  have w0 : 0 < q.2 / gI p.2 q.2 := by
    rw [k4]
    refine Int.pos_of_mul_pos_right (a := gI p.2 q.2) ?_ g0
    have := C.q0
    omega
  have w1 := Int.emod_nonneg ((q.1 - p.1) / gI p.2 q.2 * x) (show q.2 / gI p.2 q.2 ≠ 0 by omega)
  have w2 := Int.emod_lt_of_pos ((q.1 - p.1) / gI p.2 q.2 * x) w0
  have b4 : bd 400 ((q.1 - p.1) / gI p.2 q.2 * x % (q.2 / gI p.2 q.2)) := b1.le w1 (by omega)
  have mo : 0 < p.2 * (q.2 / gI p.2 q.2) := Int.mul_pos C.p0 w0
  refine tys_seqE (tys_set (ty_op (ty_p2 (p := q) (ty_var rfl)) (ty_var rfl) (opt_div (gb.div_ok g0 (by decide))))) ?_
  refine tys_seqE (tys_set (ty_op (ty_cb (tya_cons (ty_op (ty_op (ty_op (ty_p1 (p := q) (ty_var rfl)) (ty_p1 (p := p) (ty_var rfl)) opt_sub) (ty_var rfl) (opt_div (gb.div_ok g0 (by decide)))) (ty_var rfl) (opt_mulW (b3.mul_ok hx (by decide)))) tya_nil) cbt_intI) (ty_var rfl) (opt_mod w0))) ?_
  refine tys_seqE (tys_set (ty_op (ty_p2 (p := p) (ty_var rfl)) (ty_var rfl) (opt_mulW (C.p2.mul_ok b1 (by decide))))) ?_
  refine TyS.never (tys_retW (Ty.is (ty_tupD (ds := [.int ((p.1 + p.2 * ((q.1 - p.1) / gI p.2 q.2 * x % (q.2 / gI p.2 q.2))) % (p.2 * (q.2 / gI p.2 q.2))), .int (p.2 * (q.2 / gI p.2 q.2))]) (tya_cons (ty_op (ty_cb (tya_cons (ty_op (ty_p1 (p := p) (ty_var rfl)) (ty_op (ty_p2 (p := p) (ty_var rfl)) (ty_var rfl) (opt_mulW (C.p2.mul_ok b4 (by decide)))) opt_add) tya_nil) cbt_intI) (ty_var rfl) (opt_mod mo)) (tya_cons (ty_var rfl) tya_nil)) (by show 2 ≤ 1000000; decide)) ?_))
  rw [cp]; rfl
end
section
variable {P : Program} {w : World} {K : PySem.W.Frag} {mg : Str → Option Value} {base : Heap}
def sp_law_joined (K : PySem.W.Frag) : Sp := spT (fun l : List RP => RestsOk l) (fun l => [dt K (restsD false l)]) (fun l => dt K (optD (joinI l)))
theorem ok_law_joined (T : Tx P K mg) : FnOk P w K mg base (L2.CX P w) 3 T.a_law_joined T.f_law_joined ["rests"] (sp_law_joined K) := by
  have G_law_step := ok_law_step (w := w) (base := base) T
  have G_law_do_meet := ok_law_do_meet (w := w) (base := base) T
  have nd := sc_law_joined.nd
  refine fn_ty T.F_law_joined sc_law_joined (fun x _ => rfl) fun cdv Ar outer s H E hr => ⟨_, (pss_cons (pset 1 nd (pe_tup (pa_cons pe_int (pa_cons pe_int pa_nil))))
    (pss_cons (ps_for PassesOwn.never rfl (k_ilist (K := K) rfl (pv 0)) (pgn 2 nd) (pss_cons (ps_if (pt_not (pt_val (pcall G_law_do_meet (hr.mono (by decide)) T.D_law_do_meet (pa_cons (pv 1) (pa_cons (pv 2) pa_nil))))) (pss_one (ps_ret pe_non)) pss_nil)
    (pss_one (pset 1 nd (pcall G_law_step (hr.mono (by decide)) T.D_law_step (pa_cons (pv 1) (pa_cons (pv 2) pa_nil)))))))
    (pss_one (ps_ret (pv 1))))), fun W x hC => ?_⟩
  have C : RestsOk x := hC
  obtain ⟨L, L0, L1, Ld⟩ := C.L
  refine tys_seqE (W' := W) (Γ' := [some (dt K (restsD false x)), some (dt K (pairD (0, 1))), none]) (tys_set (ty_tupD (ds := [.int 0, .int 1]) (by tm_at "tyad") (by show 2 ≤ 1000000; decide))) ?_
  refine tys_seqX (α := { f : RP // joinI x = some f }) (W' := fun _ => W) (Γ' := fun f => [some (dt K (restsD false x)), some (dt K (pairD f.1)), none]) ?_ fun f => TyS.never (tys_retW (Ty.is (ty_var rfl) (congrArg optD f.2).symm))
  refine tys_for (Wi := fun _ (_ : RP) => W) (Γi := fun i (f : RP) => [some (dt K (restsD false x)), some (gd (joinI x = joinF f (x.drop i) ∧ FOk L f) (dt K (pairD f))), none]) (0, 1) (tyi_lstA (xs := x) (f := pairD) (ty_var rfl)) (fun _ _ => Wd.Like.refl W) (fun σ H g => ⟨g.1, EnvL.less (by exact ⟨fun _ _ _ _ h => h, fun _ _ _ _ h => ⟨⟨rfl, by decide, Int.one_dvd _, by decide, by decide⟩, h⟩, True.intro⟩) g.2⟩) (fun i T f hT => ?_) (fun f σ H g => ?_)
  · rw [List.getElem?_map] at hT
    cases hp : x[i]? with
    | none => rw [hp] at hT; cases hT
    | some p =>
      rw [hp] at hT
      cases hT
      have me := List.mem_of_getElem? hp
      refine ⟨_, tyg_name 2, TyS.openG (n := 1) rfl fun hk => ?_⟩
      obtain ⟨k1, F⟩ := hk
      show TyS W [some (dt K (restsD false x)), some (dt K (pairD f)), some (dt K (pairD p))] _ _ _ _ _
      rw [drop_at hp, joinF_cons] at k1
      have two := F.two L0 L1 (C.pos p me) (Ld p me) (C.b p me)
      refine tys_guard (φ := (· = !meetB f p)) (tt_notB (tt_B (ty_call (f, p) ⟨two.p0, two.q0⟩ (tya_cons (ty_var rfl) (tya_cons (ty_var rfl) tya_nil))))) (fun z => ?_) fun z => ?_
      · have e : meetB f p = false := bnot1 z
        rw [if_neg (by rw [e]; exact Bool.false_ne_true)] at k1
        exact tys_retW (Ty.is ty_non (congrArg optD k1).symm)
      · have e : meetB f p = true := bnot0 z
        rw [if_pos e] at k1
        exact TyS.imp (tys_set (ty_call (f, p) ⟨two, e⟩ (tya_cons (ty_var rfl) (tya_cons (ty_var rfl) tya_nil)))) fun σ H g => ⟨crt f p, g.1, EnvL.less (by exact ⟨fun _ _ _ _ h => h, fun _ _ _ _ h => ⟨⟨k1, F.add (C.pos p me) (Ld p me) e⟩, h⟩, True.intro⟩) g.2⟩
  · obtain ⟨v, _, ⟨h1, _⟩, _⟩ := g.2.get (i := 1) rfl
    rw [List.length_map, List.drop_length] at h1
    exact ⟨⟨f, h1⟩, g.1, EnvL.less (by exact ⟨fun _ _ _ _ h => h, fun _ _ _ _ h => h.2, True.intro⟩) g.2⟩
end
section
variable {P : Program} {w : World} {K : PySem.W.Frag} {mg : Str → Option Value} {base : Heap}
theorem shaped_list {ds : List PyData} (h : ds.all isWholeD = true) : SeqAt.shaped (.list ds) = true := by
  obtain ⟨k1, k2⟩ := lay_whole h
  simp [SeqAt.shaped, PyData.canLay0, PyData.depth, k1, k2]
theorem opt_neNilL {W : Wd} {K : PySem.W.Frag} {ds : List PyData} (h : ds.all isWholeD = true) : OpT W (rNeA K) (dt K (.list ds)) (dt K (.list [])) (dt K (.bool (!decide (ds.length = 0)))) := by
  have z := opt_neD (W := W) (K := K) (shaped_list h) (show SeqAt.shaped (.list []) = true from rfl)
  rw [eqv_nilL] at z
  exact z
def misses (l : List RP) (j : Nat) : List Nat := (List.range j).filter fun i => !pairs l i j
theorem misses_head {l : List RP} {j : Nat} : (misses l j).head? = clashJ l j := List.head?_filter
def sp_law_clash (K : PySem.W.Frag) : Sp := spT (fun l : List RP => RestsOk l) (fun l => [dt K (restsD false l)]) (fun l => dt K (clashD (clashI l)))
theorem ok_law_clash (T : Tx P K mg) : FnOk P w K mg base (L2.CX P w) 3 T.a_law_clash T.f_law_clash ["rests"] (sp_law_clash K) := by
  have G_law_do_meet := ok_law_do_meet (w := w) (base := base) T
  have nd := sc_law_clash.nd
  refine fn_ty T.F_law_clash sc_law_clash (fun x _ => rfl) fun cdv Ar outer s H E hr => ⟨_, (pss_cons (ps_for PassesOwn.never rfl (pi_range1 rfl T.m_range (pa_cons (k_len (K := K) rfl T.m_len (pa_cons (pv 0) pa_nil)) pa_nil)) (pgn 1 nd) (pss_cons (psetLc 2 [("i", 3)] nd (pi_range1 rfl T.m_range (pa_cons (pv 1) pa_nil)) (fun _ _ _ _ _ => (pgn 3 nd)) (fun _ _ _ _ _ => (pts_one (pt_not (pt_val (pcall G_law_do_meet (hr.mono (by decide)) T.D_law_do_meet (pa_cons (pe_ix (k_ix (K := K) rfl) (pv 0) (pv 3) (fun _ _ => rfl)) (pa_cons (pe_ix (k_ix (K := K) rfl) (pv 0) (pv 1) (fun _ _ => rfl)) pa_nil))))))) (fun _ _ _ _ _ => (pv 3)) (by kernel_rfl) (sw_true rfl rfl rfl (by kernel_rfl)))
    (pss_one (ps_if (pt_cmpR (k_ne (K := K) rfl hr.units) (pv 2) (pe_lst pa_nil) (nomark _)) (pss_one (ps_ret (pe_tup (pa_cons (pe_ix (k_ix (K := K) rfl) (pv 2) pe_int (fun _ _ => rfl)) (pa_cons (pv 1) pa_nil))))) pss_nil))))
    (pss_one (ps_ret pe_non))), fun W x hC => ?_⟩
  have ok : RestsOk x := hC
  refine tys_seqE (W' := W) (Γ' := [some (gd (∀ j, j < x.length → clashJ x j = none) (dt K (restsD false x))), none, none, none]) ?_ (TyS.never (TyS.openG (n := 0) rfl fun h => tys_retW (Ty.is ty_non (by show _ = clashD (clashI x); rw [clash_none.mpr h]; rfl))))
  refine tys_for (Wi := fun _ (_ : Unit) => W) (Γi := fun j (_ : Unit) => [some (gd (∀ j', j' < j → clashJ x j' = none) (dt K (restsD false x))), none, none, none]) () (tyi_rng (n := x.length) (tya_cons (Ty.is (ty_lenSeq (b := false) (ds := x.map pairD) (ty_var rfl)) (by rw [List.length_map])) tya_nil) (by have := ok.n; omega)) (fun _ _ => Wd.Like.refl W) (fun σ H g => ⟨g.1, EnvL.less (by exact ⟨fun _ _ _ _ h => ⟨fun _ z => absurd z (Nat.not_lt_zero _), h⟩, True.intro⟩) g.2⟩) (fun j T' _ hT => ?_) (fun _ σ H g => by
    rw [List.length_map, List.length_range] at g
    exact g)
  obtain ⟨hj, rfl⟩ := range_map_get hT
  refine ⟨_, tyg_name 1, TyS.openG (n := 0) rfl fun hk => ?_⟩
  show TyS W [some (dt K (restsD false x)), some (dt K (.int (j : Nat))), none, none] _ _ _ _ _
  have hl : TyL W [some (dt K (restsD false x)), some (dt K (.int (j : Nat))), none, none] (tLc (iRng1 (tCons (tVar 1) tNil)) (gName 3) (tNot (tB (tCall (sp_law_do_meet K) [] E0 (tCons (tOp (rIx K) (tVar 0) (tVar 3)) (tCons (tOp (rIx K) (tVar 0) (tVar 1)) tNil))))) (tVar 3) [3]) ((misses x j).map fun i : Nat => dt K (.int (i : Nat))) :=
    tyl_filter (fun i : Nat => dt K (.int (i : Nat))) (fun i : Nat => dt K (.int (i : Nat))) (fun i => !pairs x i j) (tyi_rng (n := j) (tya_cons (ty_var rfl) tya_nil) (by have := ok.n; omega)) (by rw [List.length_range]; have := ok.n; omega) (by decide) fun W' i hi => by
      have hi' : i < j := List.mem_range.mp hi
      have mi := getD_mem (l := x) (i := i) (by omega)
      have mj := getD_mem (l := x) (i := j) hj
      exact ⟨tt_notB (tt_B (ty_call (x.getD i (0, 1), x.getD j (0, 1)) ⟨ok.pos _ mi, ok.pos _ mj⟩ (tya_cons (ty_op (ty_var rfl) (ty_var rfl) (opt_ixSeq (b := false) (ds := x.map pairD) (pair_at (by omega)))) (tya_cons (ty_op (ty_var rfl) (ty_var rfl) (opt_ixSeq (b := false) (ds := x.map pairD) (pair_at hj))) tya_nil)))), fun _ => ty_var rfl⟩
  refine tys_seqE (tys_set (ty_lstG (f := fun i : Nat => .int (i : Nat)) hl)) ?_
  show TyS W [some (dt K (restsD false x)), some (dt K (.int (j : Nat))), some (dt K (.list ((misses x j).map fun i : Nat => .int (i : Nat)))), none] _ _ _ _ _
  have mh := misses_head (l := x) (j := j)
  generalize misses x j = ms at mh
  refine tys_if (φ := (· = !decide ((ms.map fun i : Nat => PyData.int (i : Nat)).length = 0))) (tt_test (ty_op (ty_var rfl) (ty_lstD (ds := []) tya_nil (by show 0 ≤ 1000000; decide)) (opt_neNilL (by rw [List.all_map]; exact List.all_eq_true.mpr fun _ _ => rfl)))) (fun z => ?_) fun z => ?_
  · cases ms with
    | nil => simp at z
    | cons i r =>
      have e : clashJ x j = some i := mh.symm
      refine TyS.never (tys_retW (Ty.is (ty_tupD (ds := [.int (i : Nat), .int (j : Nat)]) (tya_cons (ty_op (ty_var rfl) ty_int (opt_ixL (i := 0) (d := .int (i : Nat)) (atI_nat (j := 0) rfl))) (tya_cons (ty_var rfl) tya_nil)) (by show 2 ≤ 1000000; decide)) (by show _ = clashD (clashI x); rw [clash_some hj e hk]; rfl)))
  · cases ms with
    | cons i r => simp at z
    | nil =>
      have e : clashJ x j = none := mh.symm
      exact tys_next.imp fun σ H g => ⟨(), g.1, EnvL.less (by exact ⟨fun _ _ _ _ h => ⟨all_succ hk e, h⟩, True.intro⟩) g.2⟩
end
section
variable {P : Program} {w : World} {K : PySem.W.Frag} {mg : Str → Option Value} {base : Heap}
/-- what is due of numbers -/
def numsD : Option RP → Int → PyData
  | none, _ => .list [.str "told", .list []]
  | some f, b => if 1000 < manyI f b then .list [.str "many", .int (manyI f b)] else .list [.str "told", linD (numsI f b)]
theorem numsD_some {f : RP} {b : Int} : numsD (some f) b = if 1000 < manyI f b then .list [.str "many", .int (manyI f b)] else .list [.str "told", linD (numsI f b)] := rfl
def sp_law_numbers (K : PySem.W.Frag) : Sp := spT (fun x : Option RP × Int => ∀ f, x.1 = some f → Nin f x.2) (fun x => [dt K (optD x.1), dt K (.int x.2)]) (fun x => dt K (numsD x.1 x.2))
theorem ok_law_numbers (T : Tx P K mg) : FnOk P w K mg base (L2.CX P w) 1 T.a_law_numbers T.f_law_numbers ["found", "bound"] (sp_law_numbers K) := by
  have nd := sc_law_numbers.nd
  refine fn_ty T.F_law_numbers sc_law_numbers (fun x _ => rfl) fun cdv Ar outer s H E hr => ⟨_, (pss_cons (ps_if (pt_cmpR op_isN (pv 0) pe_non (nomark _)) (pss_one (ps_ret (pe_lst (pa_cons pe_str (pa_cons (pe_lst pa_nil) pa_nil))))) pss_nil)
    (pss_cons (pset 2 nd (pe_op op_sub (pe_ix (k_ix (K := K) rfl) (pv 0) pe_int (fun _ _ => rfl)) (pe_op op_mulA (pe_op op_divA (pe_op (k_add (K := K) rfl) (pe_ix (k_ix (K := K) rfl) (pv 0) pe_int (fun _ _ => rfl)) (pv 1)) (pe_ix (k_ix (K := K) rfl) (pv 0) pe_int (fun _ _ => rfl))) (pe_ix (k_ix (K := K) rfl) (pv 0) pe_int (fun _ _ => rfl)))))
    (pss_cons (pset 3 nd (pe_ifExp (pt_cmpR op_le (pv 2) (pv 1) (nomark _)) (pe_op (k_add (K := K) rfl) (pe_op op_divA (pe_op op_sub (pv 1) (pv 2)) (pe_ix (k_ix (K := K) rfl) (pv 0) pe_int (fun _ _ => rfl))) pe_int) pe_int))
    (pss_cons (ps_if (pt_cmpR op_gt (pv 3) pe_int (nomark _)) (pss_one (ps_ret (pe_lst (pa_cons pe_str (pa_cons (pv 3) pa_nil))))) pss_nil)
    (pss_one (ps_ret (pe_lst (pa_cons pe_str (pa_cons (plc [("k", 4)] nd (pi_range1 rfl T.m_range (pa_cons (pv 3) pa_nil)) (fun _ _ _ _ _ => (pgn 4 nd)) (fun _ _ _ _ _ => pts_nil) (fun _ _ _ _ _ => (pe_op (k_add (K := K) rfl) (pv 2) (pe_op op_mulA (pe_ix (k_ix (K := K) rfl) (pv 0) pe_int (fun _ _ => rfl)) (pv 4)))) (by kernel_rfl)) pa_nil))))))))), fun W x hC => ?_⟩
  obtain ⟨o, b⟩ := x
  cases o with
  | none => exact tys_guard (φ := (· = true)) (by tm_at "ttis") (fun _ => tys_retW (ty_lstD (ds := [.str "told", .list []]) (tya_cons ty_str (tya_cons (ty_lstD (ds := []) tya_nil (by show 0 ≤ 1000000; decide)) tya_nil)) (by show 2 ≤ 1000000; decide))) fun z => Bool.noConfusion z
  | some f =>
    have C : Nin f b := hC f rfl
    have b1 : bd 401 (f.1 + b) := C.f1.add C.b1
    have ml := many_lo C.p C.b0
    show TyS W [some (dt K (pairD f)), some (dt K (.int b)), none, none, none] _ _ _ _ _
    refine tys_guard (φ := (· = false)) (Tt.is (tt_test (ty_op (ty_var rfl) ty_non (opt_isN (d := pairD f)))) rfl) (fun z => Bool.noConfusion z) fun _ => ?_
    refine tys_seqE (W' := W) (Γ' := [some (dt K (pairD f)), some (dt K (.int b)), some (dt K (.int (firstI f b))), none, none]) (tys_set (ty_op (ty_p1 (ty_var rfl)) (ty_op (ty_op (ty_op (ty_p1 (ty_var rfl)) (ty_var rfl) opt_add) (ty_p2 (ty_var rfl)) (opt_div (C.f2.div_ok C.p (by decide)))) (ty_p2 (ty_var rfl)) (opt_mulW ((b1.div C.p).mul_ok C.f2 (by decide)))) opt_sub)) ?_
    refine tys_seqE (W' := W) (Γ' := [some (dt K (pairD f)), some (dt K (.int b)), some (dt K (.int (firstI f b))), some (dt K (.int (manyI f b))), none]) (tys_set (ty_if (φ := (· = decide (firstI f b ≤ b))) (tt_test (ty_op (ty_var rfl) (ty_var rfl) opt_le)) (fun _ => ty_op (ty_op (ty_op (ty_var rfl) (ty_var rfl) opt_sub) (ty_p2 (ty_var rfl)) (opt_div (C.f2.div_ok C.p (by decide)))) ty_int opt_add) fun z => Ty.is (ty_int (n := 0)) (congrArg PyData.int (ml.2 (by have := of_decide_eq_false z.symm; omega)).symm))) ?_
    refine tys_guard (φ := (· = decide (1000 < manyI f b))) (tt_test (ty_op (ty_var rfl) ty_int opt_gt)) (fun z => ?_) fun z => ?_
    · exact tys_retW (Ty.is (ty_lstD (ds := [.str "many", .int (manyI f b)]) (tya_cons ty_str (tya_cons (ty_var rfl) tya_nil)) (by show 2 ≤ 1000000; decide)) (by show _ = numsD (some f) b; rw [numsD_some, if_pos (of_decide_eq_true z.symm)]))
    · have z1 := of_decide_eq_false z.symm
      have h : TyL W [some (dt K (pairD f)), some (dt K (.int b)), some (dt K (.int (firstI f b))), some (dt K (.int (manyI f b))), none] (tLc (iRng1 (tCons (tVar 3) tNil)) (gName 4) tYes (tOp (rAddA K) (tVar 2) (tOp rMulA (tOp (rIx K) (tVar 0) (tC (V.int 1))) (tVar 4))) [4]) ((List.range (manyI f b).toNat).map fun t : Nat => dt K (.int (firstI f b + (t : Int) * f.2))) :=
        tyl_map (fun i : Nat => dt K (.int (i : Nat))) _ (tyi_rng1 (tya_cons (ty_var rfl) tya_nil) (by omega) (by omega)) (by rw [List.length_range]; omega) (by decide) fun W' t ht => by
          have : t < (manyI f b).toNat := List.mem_range.mp ht
          exact Ty.is (ty_op (ty_var rfl) (ty_op (ty_p2 (ty_var rfl)) (ty_var rfl) (opt_mul (.inr ⟨by omega, by omega⟩))) opt_add) (by rw [Int.mul_comm])
      refine TyS.never (tys_retW (Ty.is (ty_lstD (ds := [.str "told", linD (numsI f b)]) (tya_cons ty_str (tya_cons (Ty.is (ty_lstG (f := fun t : Nat => .int (firstI f b + (t : Int) * f.2)) h) (by unfold linD numsI; rw [List.map_map]; rfl)) tya_nil)) (by show 2 ≤ 1000000; decide)) (by show _ = numsD (some f) b; rw [numsD_some, if_neg z1])))
end
section
variable {P : Program} {w : World} {K : PySem.W.Frag} {mg : Str → Option Value} {base : Heap}
abbrev absI (g : Int) : Int := if g < 0 then -g else g
def boxTs (K : PySem.W.Frag) (g : Int) : List Typ := [dt K (.int (absI g)), dt K (.bool (decide ((10 : Int) ^ (18 : Int).toNat ≤ absI g))), dt K (.int (absI g % 2147483629)), dt K (.int 0)]
def sp_law_box (K : PySem.W.Frag) : Sp := spL (fun _ : Int => True) (fun g => [dt K (.int g)]) (boxTs K)
theorem boxTs_box {K : PySem.W.Frag} {M B : Addr → Prop} {g : Int} {xs : List V} {H : Hp} (h : TysV M B (boxTs K g) xs H) : BxL xs := by
  match xs, h with
  | [a, b, c, d], h =>
    obtain ⟨h1, h2, h3, h4, _⟩ := h
    cases h1; cases h2; cases h3; cases h4
    exact ⟨_, _, _, _, rfl, by omega, by omega⟩
theorem ok_law_box (T : Tx P K mg) : FnOk P w K mg base (L2.CX P w) 1 T.a_law_box T.f_law_box ["great"] (sp_law_box K) := by
  have nd := sc_law_box.nd
  refine fn_tyL T.F_law_box sc_law_box (fun x _ => rfl) fun cdv Ar outer s H E hr => ⟨_, (pss_one (ps_ret (pe_lst (pa_cons (bi_abs T.m_abs (pa_cons (pv 0) pa_nil)) (pa_cons (pe_cmpR op_ge (bi_abs T.m_abs (pa_cons (pv 0) pa_nil)) (pe_op op_pow pe_int pe_int) (nomark _)) (pa_cons (pe_op op_mod (bi_int T.m_int (pa_cons (bi_abs T.m_abs (pa_cons (pv 0) pa_nil)) pa_nil)) pe_int) (pa_cons pe_int pa_nil))))))), fun W x hC => ?_⟩
  exact TyS.never (tys_retL (tyl_lst (Ts := boxTs K x) (by unfold boxTs; tm_at "tya") (by show 4 ≤ 1000000; decide)))
end
section
variable {P : Program} {w : World} {K : PySem.W.Frag} {mg : Str → Option Value} {base : Heap}
def sp_law_take (K : PySem.W.Frag) : Sp := spT (fun n : Nat => 0 < n ∧ n ≤ 1000000) (fun n => [bx, dt K (.int (n : Nat))]) (fun n => digT K n)
theorem ix4 (a b c d : V) : atI [a, b, c, d] 0 = some a ∧ atI [a, b, c, d] 1 = some b ∧ atI [a, b, c, d] 2 = some c ∧ atI [a, b, c, d] 3 = some d := ⟨atI_nat (j := 0) rfl, atI_nat (j := 1) rfl, atI_nat (j := 2) rfl, atI_nat (j := 3) rfl⟩
theorem dig_of {K : PySem.W.Frag} {M B : Addr → Prop} {H : Hp} {n : Nat} {i : Int} (h0 : 0 ≤ i) (h1 : i < n) : (digT K n).p M B (.int i) H := by
  refine ⟨i.toNat, by omega, ?_⟩
  have e : ((i.toNat : Nat) : Int) = i := Int.toNat_of_nonneg h0
  show Rp M K H (.int i) (.int ((i.toNat : Nat) : Int))
  rw [e]; exact .int i
theorem ok_law_take (T : Tx P K mg) : FnOk P w K mg base (L2.CX P w) 1 T.a_law_take T.f_law_take ["box", "many"] (sp_law_take K) := by
  have nd := sc_law_take.nd
  refine fn_ty T.F_law_take sc_law_take (fun x _ => rfl) fun cdv Ar outer s H E hr => ⟨_, (pss_cons (ps_if (PW.pt (pw_and (pt_val (pe_ix (k_ix (K := K) rfl) (pv 0) pe_int (fun _ _ => rfl))) (pw_and1 (pt_cmpR op_gt (pe_ix (k_ix (K := K) rfl) (pv 0) pe_int (fun _ _ => rfl)) pe_int (nomark _))))) (pss_cons (pset 2 nd (pe_op op_mod (bi_int T.m_int (pa_cons (pe_ix (k_ix (K := K) rfl) (pv 0) pe_int (fun _ _ => rfl)) pa_nil)) (pv 1)))
    (pss_cons (ps_asg (pe_op op_divA (bi_int T.m_int (pa_cons (pe_ix (k_ix (K := K) rfl) (pv 0) pe_int (fun _ _ => rfl)) pa_nil)) (pv 1)) (pg_sub (pv 0) pe_int set_list))
    (pss_one (ps_ret (pv 2))))) pss_nil)
    (pss_cons (ps_asg (pe_op (k_add (K := K) rfl) (pe_ix (k_ix (K := K) rfl) (pv 0) pe_int (fun _ _ => rfl)) pe_int) (pg_sub (pv 0) pe_int set_list))
    (pss_cons (ps_asg (pe_op op_mod (pe_op (k_add (K := K) rfl) (pe_op (k_add (K := K) rfl) (pe_op op_mulA (pe_ix (k_ix (K := K) rfl) (pv 0) pe_int (fun _ _ => rfl)) pe_int) (pe_op op_mulA pe_int (pe_ix (k_ix (K := K) rfl) (pv 0) pe_int (fun _ _ => rfl)))) pe_int) pe_int) (pg_sub (pv 0) pe_int set_list))
    (pss_one (ps_ret (pe_op op_mod (pe_op op_divA (pe_ix (k_ix (K := K) rfl) (pv 0) pe_int (fun _ _ => rfl)) pe_int) (pv 1))))))), fun W x hC => ?_⟩
  obtain ⟨n0, n1⟩ := hC
  intro σ H c g D dn dr db dc
  obtain ⟨_, g1, g2⟩ : ∃ z : σ.length = 3, (∃ u, σ[0]? = some (some u) ∧ bx.p W.M W.B u H) ∧ (∃ u, σ[1]? = some (some u) ∧ (dt K (.int (x : Nat))).p W.M W.B u H) := ⟨g.length, g.get (i := 0) rfl, g.get (i := 1) rfl⟩
  obtain ⟨u, s0, p, rfl, hB, xs, hH, gr, b, cc, k, rfl, c0, c1⟩ := g1
  obtain ⟨u, s1, hu⟩ := g2
  cases hu
  obtain ⟨i0, i1, i2, i3⟩ := ix4 (.int gr) (.bl b) (.int cc) (.int k)
  have box : BoxAt H p := ⟨_, hH, gr, b, cc, k, rfl, c0, c1⟩
  have gt : ∀ {Q : Bool → Hp → Prop}, Q (b && decide (0 < gr)) H → tAnd (tB (tOp (rIx K) (tVar 0) (tC (.int 1)))) (tTest (tOp (rI0 fun i j => .bl (decide (j < i))) (tOp (rIx K) (tVar 0) (tC (.int 0))) (tC (.int 0)))) σ H Q := fun {Q} q => by
    refine Ev.tbl (ev_ix hH i1 (ev_var s0) ev_c) ?_
    cases b with
    | true => rw [if_pos rfl]; exact Ev.tt (ev_I0 (ev_ix hH i0 (ev_var s0) ev_c) ev_c) (by simpa using q)
    | false => rw [if_neg Bool.false_ne_true]; simpa using q
  refine gt ?_
  cases hb : (b && decide (0 < gr)) with
  | true =>
    rw [if_pos rfl]
    refine ev_I (i := gr) (j := (x : Int)) (by omega) (ev_int (ev_ix hH i0 (ev_var s0) ev_c)) (ev_var s1) _ ?_
    have t0 : (σ.set 2 (some (.int (gr % (x : Int)))))[0]? = some (some (.ref p)) := by rw [List.getElem?_set_ne (by decide)]; exact s0
    have t1 : (σ.set 2 (some (.int (gr % (x : Int)))))[1]? = some (some (.int (x : Int))) := by rw [List.getElem?_set_ne (by decide)]; exact s1
    have t2 : (σ.set 2 (some (.int (gr % (x : Int)))))[2]? = some (some (.int (gr % (x : Int)))) := List.getElem?_set_self (by have gl : σ.length = 3 := g.length; rw [gl]; decide)
    refine ev_put (k := 0) (ev_div (i := gr) (j := (x : Int)) ⟨by omega, ?_⟩ (ev_int (ev_ix hH i0 (ev_var t0) ev_c)) (ev_var t1)) (ev_var t0) ev_c hH rfl ?_
    · have l := Nat.log2_le_self x
      have e : ((x : Int)).natAbs = x := rfl
      rw [e]
      have : x.log2 < 64 := by
        by_cases z : x = 0
        · omega
        · have big : (1000000 : Nat) < 2 ^ 64 := by decide
          exact (Nat.log2_lt z).mpr (by omega)
      omega
    refine ev_var t2 _ (dr _ _ ⟨c.ex.trans (Ex.turn hB box ⟨_, _, _, _, rfl, c0, c1⟩), ?_⟩)
    exact dig_of (Int.emod_nonneg _ (by omega)) (Int.emod_lt_of_pos _ (by omega))
  | false =>
    rw [if_neg Bool.false_ne_true]
    refine ev_put (k := 3) (ev_add (ev_ix hH i3 (ev_var s0) ev_c) ev_c) (ev_var s0) ev_c hH rfl ?_
    obtain ⟨j0, j1, j2, j3⟩ := ix4 (.int gr) (.bl b) (.int cc) (.int (k + 1))
    have hH1 : upd H p (.lst ([V.int gr, .bl b, .int cc, .int k].set 3 (.int (k + 1)))) p = some (.lst [.int gr, .bl b, .int cc, .int (k + 1)]) := upd_same
    refine ev_put (k := 2) (ev_I (by omega) (ev_add (ev_add (ev_mul (.inr ⟨by decide, by decide⟩) (ev_ix hH1 j2 (ev_var s0) ev_c) ev_c) (ev_mul (.inl ⟨by decide, by decide⟩) ev_c (ev_ix hH1 j3 (ev_var s0) ev_c))) ev_c) ev_c) (ev_var s0) ev_c hH1 rfl ?_
    obtain ⟨m0, m1, m2, m3⟩ := ix4 (.int gr) (.bl b) (.int ((cc * 69621 + 1447 * (k + 1) + 37) % 2147483629)) (.int (k + 1))
    refine ev_I (i := (cc * 69621 + 1447 * (k + 1) + 37) % 2147483629 / 64) (j := (x : Int)) (by omega) (ev_div ⟨by decide, by decide⟩ (ev_ix upd_same m2 (ev_var s0) ev_c) ev_c) (ev_var s1) _ (dr _ _ ⟨?_, ?_⟩)
    · have e1 : Ex W.B H (upd H p (.lst [V.int gr, .bl b, .int cc, .int (k + 1)])) := Ex.turn hB box ⟨_, _, _, _, rfl, c0, c1⟩
      exact c.ex.trans (e1.trans (Ex.turn hB ⟨_, upd_same, _, _, _, _, rfl, c0, c1⟩ ⟨_, _, _, _, rfl, by omega, by omega⟩))
    · exact dig_of (Int.emod_nonneg _ (by omega)) (Int.emod_lt_of_pos _ (by omega))
end
section
variable {P : Program} {w : World} {K : PySem.W.Frag} {mg : Str → Option Value} {base : Heap}
def modL (g : Bool) : List Int := if g = true then [1000000007, 1099511627776, 3486784401, 6, 12, 4294967296] else [1, 2, 3, 4, 6, 8, 9, 10, 12, 15]
def allL (g : Bool) : Int := if g = true then 1000000007 * 1099511627776 * 3486784401 else 360
theorem allL_pos (g : Bool) : 0 < allL g := by cases g <;> decide
theorem allL_sq (g : Bool) : sq (allL g) := by cases g <;> (show (allL _).natAbs < 2 ^ 400; decide +kernel)
theorem modL_ok {g : Bool} : ∀ m ∈ modL g, 0 < m ∧ m ∣ allL g ∧ m < 2 ^ 41 := by cases g <;> decide +kernel
theorem modL_len (g : Bool) : 0 < (modL g).length ∧ (modL g).length ≤ 10 := by cases g <;> decide
/-- a rest as it is drawn; its number no greater than b -/
def Drawn (g : Bool) (b : Nat) (p : RP) : Prop := p.2 ∈ modL g ∧ p.1.natAbs ≤ b
def pT (K : PySem.W.Frag) (p : RP) : Typ := dt K (pairD p)
theorem dt_pair {K : PySem.W.Frag} {M B : Addr → Prop} {H : Hp} {v : V} {A : Typ} {C : Int → Prop} {m : Int} (h : (tupT K [exT fun i : Int => gd (C i) (dt K (.int i)), dt K (.int m)]).p M B v H) : ∃ i, C i ∧ (dt K (pairD (i, m))).p M B v H := by
  obtain ⟨a, xs, rfl, h2, h3⟩ := h
  match xs, h3 with
  | [x, y], ⟨⟨i, hi, hx⟩, hy, _⟩ => exact ⟨i, hi, .tup h2 (.cons hx (.cons hy .nil))⟩
/-- an unknown int, in bounds -/
def inT (K : PySem.W.Frag) (φ : Int → Prop) : Typ := exT fun i : Int => gd (φ i) (dt K (.int i))
section
variable {W : Wd} {Γ : Gam} {K : PySem.W.Frag} {ta tb : TE} {φ ψ χ : Int → Prop}
theorem ty_addX (ha : Ty W Γ ta (inT K φ)) (hb : Ty W Γ tb (inT K ψ)) (h : ∀ i j, φ i → ψ j → χ (i + j)) : Ty W Γ (tOp (rAddA K) ta tb) (inT K χ) := ty_op ha hb fun u v H c ⟨i, hi, hu⟩ ⟨j, hj, hv⟩ Q q => opt_add u v H c hu hv Q fun w H1 e z => q w H1 e ⟨i + j, h i j hi hj, z⟩
theorem ty_subX (ha : Ty W Γ ta (inT K φ)) (hb : Ty W Γ tb (inT K ψ)) (h : ∀ i j, φ i → ψ j → χ (i - j)) : Ty W Γ (tOp (rI0 fun i j => .int (i - j)) ta tb) (inT K χ) := ty_op ha hb fun u v H c ⟨i, hi, hu⟩ ⟨j, hj, hv⟩ Q q => opt_sub u v H c hu hv Q fun w H1 e z => q w H1 e ⟨i - j, h i j hi hj, z⟩
theorem ty_mulX (ha : Ty W Γ ta (inT K φ)) (hb : Ty W Γ tb (inT K ψ)) (h : ∀ i j, φ i → ψ j → L2.CMul i j ∧ χ (i * j)) : Ty W Γ (tOp rMulA ta tb) (inT K χ) := ty_op ha hb fun u v H c ⟨i, hi, hu⟩ ⟨j, hj, hv⟩ Q q => opt_mul (h i j hi hj).1 u v H c hu hv Q fun w H1 e z => q w H1 e ⟨i * j, (h i j hi hj).2, z⟩
theorem ty_in {i : Int} (h : Ty W Γ ta (dt K (.int i))) (k : φ i) : Ty W Γ ta (inT K φ) := h.sub fun v H _ z => ⟨i, k, z⟩
theorem dig_in {n : Nat} (h : Ty W Γ ta (digT K n)) : Ty W Γ ta (inT K fun i => 0 ≤ i ∧ i < n) := h.sub fun v H _ ⟨k, hk, z⟩ => ⟨(k : Int), ⟨by omega, by omega⟩, z⟩
theorem in_sub (h : Ty W Γ ta (inT K φ)) (k : ∀ i, φ i → ψ i) : Ty W Γ ta (inT K ψ) := h.sub fun v H _ ⟨i, hi, z⟩ => ⟨i, k i hi, z⟩
/-- take(..) == n, somehow -/
theorem tt_eqX {j : Int} (ha : Ty W Γ ta (inT K φ)) (hb : Ty W Γ tb (dt K (.int j))) : Tt W Γ (tTest (tOp (rEqA K) ta tb)) (fun _ => True) := tt_testE (K := K) (φ := fun _ => True) (ty_op ha hb fun u v H c ⟨i, hi, hu⟩ hv Q q => opt_eqI u v H c hu hv Q fun w H1 e z => q w H1 e ⟨_, trivial, z⟩)
theorem ty_eqX {j : Int} (ha : Ty W Γ ta (inT K φ)) (hb : Ty W Γ tb (dt K (.int j))) : Ty W Γ (tOp (rEqA K) ta tb) (exT fun b : Bool => dt K (.bool b)) := ty_op ha hb fun u v H c ⟨i, hi, hu⟩ hv Q q => opt_eqI u v H c hu hv Q fun w H1 e z => q w H1 e ⟨_, z⟩
end
theorem set_map {α : Type} (f : α → Typ) (l : List α) (k : Nat) (x : α) : (l.map f).set k (f x) = (l.set k x).map f := (List.map_set ..).symm
theorem mem_set {l : List RP} {k : Nat} {x p : RP} (h : p ∈ l.set k x) : p ∈ l ∨ p = x := List.mem_or_eq_of_mem_set h
theorem rests_of {l : List RP} {g : Bool} (hl : l.length ≤ 40) (h : ∀ p ∈ l, Drawn g (2 ^ 110) p) : RestsOk l := by
  refine ⟨hl, fun p hp => (modL_ok p.2 (h p hp).1).1, fun p hp => ?_, allL g, allL_pos g, allL_sq g, fun p hp => (modL_ok p.2 (h p hp).1).2.1⟩
  have := (h p hp).2
  have e : 2 ^ 110 < 2 ^ 400 := Nat.pow_lt_pow_right (by decide) (by decide)
  show p.1.natAbs < 2 ^ 400
  omega
def sp_law_rests (K : PySem.W.Frag) : Sp := spT (fun _ : Unit => True) (fun _ => [bx]) (fun _ => exT fun x : List RP × Int => gd (RestsOk x.1) (dt K (.list [restsD false x.1, .int x.2])))
theorem ok_law_rests (T : Tx P K mg) : FnOk P w K mg base (L2.CX P w) 2 T.a_law_rests T.f_law_rests ["box"] (sp_law_rests K) := by
  have G_law_take := ok_law_take (w := w) (base := base) T
  have nd := sc_law_rests.nd
  refine fn_ty T.F_law_rests sc_law_rests (fun x _ => rfl) fun cdv Ar outer s H E hr => ⟨_, (pss_cons (pset 1 nd (pe_cmpR (k_eq (K := K) rfl hr.units) (pcall G_law_take (hr.mono (by decide)) T.D_law_take (pa_cons (pv 0) (pa_cons pe_int pa_nil))) pe_int (nomark _)))
    (pss_cons (pset 2 nd (pe_ifExp (pt_not (pt_val (pv 1))) (pe_op op_sub (pcall G_law_take (hr.mono (by decide)) T.D_law_take (pa_cons (pv 0) (pa_cons pe_int pa_nil))) pe_int) (pe_op (k_add (K := K) rfl) (pe_op op_pow pe_int pe_int) (pcall G_law_take (hr.mono (by decide)) T.D_law_take (pa_cons (pv 0) (pa_cons pe_int pa_nil))))))
    (pss_cons (pset 3 nd (pe_ifExp (pt_not (pt_val (pv 1))) (pe_lst (pa_cons pe_int (pa_cons pe_int (pa_cons pe_int (pa_cons pe_int (pa_cons pe_int (pa_cons pe_int (pa_cons pe_int (pa_cons pe_int (pa_cons pe_int (pa_cons pe_int pa_nil))))))))))) (pe_lst (pa_cons (pe_op (k_add (K := K) rfl) (pe_op op_pow pe_int pe_int) pe_int) (pa_cons (pe_op op_pow pe_int pe_int) (pa_cons (pe_op op_pow pe_int pe_int) (pa_cons pe_int (pa_cons pe_int (pa_cons (pe_op op_pow pe_int pe_int) pa_nil)))))))))
    (pss_cons (pset 4 nd (pe_ifExp (pt_cmpR (k_eq (K := K) rfl hr.units) (pcall G_law_take (hr.mono (by decide)) T.D_law_take (pa_cons (pv 0) (pa_cons pe_int pa_nil))) pe_int (nomark _)) pe_int (pcall G_law_take (hr.mono (by decide)) T.D_law_take (pa_cons (pv 0) (pa_cons pe_int pa_nil)))))
    (pss_cons (pset 5 nd (pe_lst pa_nil))
    (pss_cons (ps_for PassesOwn.never rfl (pi_range1 rfl T.m_range (pa_cons (pv 4) pa_nil)) (pgn 6 nd) (pss_cons (pset 7 nd (pe_ix (k_ix (K := K) rfl) (pv 3) (pcall G_law_take (hr.mono (by decide)) T.D_law_take (pa_cons (pv 0) (pa_cons (k_len (K := K) rfl T.m_len (pa_cons (pv 3) pa_nil)) pa_nil))) (fun _ _ => rfl)))
    (pss_one (ps_expr (k_append (K := K) rfl (pv 5) (pa_cons (pe_tup (pa_cons (pe_op (k_add (K := K) rfl) (pv 2) (pe_op op_mulA (pv 7) (pe_op op_sub (pcall G_law_take (hr.mono (by decide)) T.D_law_take (pa_cons (pv 0) (pa_cons pe_int pa_nil))) pe_int))) (pa_cons (pv 7) pa_nil))) pa_nil))))))
    (pss_cons (ps_if (PW.pt (pw_and (pt_cmpR op_gt (pv 4) pe_int (nomark _)) (pw_and1 (pt_cmpR (k_eq (K := K) rfl hr.units) (pcall G_law_take (hr.mono (by decide)) T.D_law_take (pa_cons (pv 0) (pa_cons pe_int pa_nil))) pe_int (nomark _))))) (pss_one (ps_for PassesOwn.never rfl (pi_range1 rfl T.m_range (pa_cons (pe_op (k_add (K := K) rfl) pe_int (pcall G_law_take (hr.mono (by decide)) T.D_law_take (pa_cons (pv 0) (pa_cons pe_int pa_nil)))) pa_nil)) (pgn 8 nd) (pss_cons (pset 9 nd (pcall G_law_take (hr.mono (by decide)) T.D_law_take (pa_cons (pv 0) (pa_cons (pv 4) pa_nil))))
    (pss_one (ps_asg (pe_tup (pa_cons (pe_op (k_add (K := K) rfl) (pe_op (k_add (K := K) rfl) (pe_ix (k_ix (K := K) rfl) (pe_ix (k_ix (K := K) rfl) (pv 5) (pv 9) (fun _ _ => rfl)) pe_int (fun _ _ => rfl)) pe_int) (pcall G_law_take (hr.mono (by decide)) T.D_law_take (pa_cons (pv 0) (pa_cons pe_int pa_nil)))) (pa_cons (pe_ix (k_ix (K := K) rfl) (pe_ix (k_ix (K := K) rfl) (pv 5) (pv 9) (fun _ _ => rfl)) pe_int (fun _ _ => rfl)) pa_nil))) (pg_sub (pv 5) (pv 9) set_list)))))) pss_nil)
    (pss_one (ps_ret (pe_lst (pa_cons (pv 5) (pa_cons (pv 2) pa_nil)))))))))))), fun W x hC => ?_⟩
  have dig : ∀ (W' : Wd) (Γ : Gam) (n : Nat) (te : TE), Γ[0]? = some (some bx) → 0 < n → n ≤ 1000000 → Ty W' Γ te (dt K (.int (n : Nat))) → Ty W' Γ (tCall (sp_law_take K) [] E0 (tCons (tVar 0) (tCons te tNil))) (digT K n) := fun W' Γ n te h h0 h1 h2 => ty_call n ⟨h0, h1⟩ (tya_cons (ty_var h) (tya_cons h2 tya_nil))
  have digI : ∀ (W' : Wd) (Γ : Gam) (n : Nat), Γ[0]? = some (some bx) → 0 < n → n ≤ 1000000 → Ty W' Γ (tCall (sp_law_take K) [] E0 (tCons (tVar 0) (tCons (tC (.int (n : Nat))) tNil))) (inT K fun i => 0 ≤ i ∧ i < n) := fun W' Γ n h h0 h1 => dig_in (dig W' Γ n _ h h0 h1 ty_int)
  refine tys_seqE (tys_set (T := exT fun b : Bool => dt K (.bool b)) (ty_eqX (digI _ _ 8 rfl (by decide) (by decide)) ty_int)) ?_
  refine TyS.openX (n := 1) rfl fun gr => ?_
  show TyS W [some bx, some (dt K (.bool gr)), none, none, none, none, none, none, none, none] _ _ _ _ _
  refine tys_seqE (tys_set (T := inT K fun i => i.natAbs ≤ 2 ^ 100) (ty_if (φ := (· = !gr)) (tt_notB (tt_B (ty_var rfl))) (fun _ => ty_subX (digI _ _ 200 rfl (by decide) (by decide)) (ty_in (φ := fun i => i = 100) ty_int rfl) fun i j hi hj => by subst hj; omega) fun _ => ty_addX (ty_in (φ := fun i => i.natAbs ≤ 2 ^ 99) (ty_op ty_int ty_int (opt_pow ⟨by decide, by decide, by decide⟩)) (by decide +kernel)) (digI _ _ 1000 rfl (by decide) (by decide)) fun i j hi hj => by omega)) ?_
  refine TyS.openX (n := 2) rfl fun number => TyS.openG (n := 2) rfl fun hnum => ?_
  show TyS W [some bx, some (dt K (.bool gr)), some (dt K (.int number)), none, none, none, none, none, none, none] _ _ _ _ _
  refine tys_seqE (tys_set (T := dt K (linD (modL gr))) (ty_if (φ := (· = !gr)) (tt_notB (tt_B (ty_var rfl))) (fun z => ?mA) fun z => ?mB)) ?_
  case mA =>
    obtain rfl : gr = false := bnot1 z
    exact ty_lstD (ds := (modL false).map .int) (by show TyA _ _ _ [_, _, _, _, _, _, _, _, _, _]; tm_at "tya") (by decide)
  case mB =>
    obtain rfl : gr = true := bnot0 z
    exact ty_lstD (ds := (modL true).map .int) (tya_cons (Ty.is (ty_op (ty_op ty_int ty_int (opt_pow ⟨by decide, by decide, by decide⟩)) ty_int opt_add) (congrArg PyData.int (by decide))) (tya_cons (Ty.is (ty_op ty_int ty_int (opt_pow ⟨by decide, by decide, by decide⟩)) (congrArg PyData.int (by decide))) (tya_cons (Ty.is (ty_op ty_int ty_int (opt_pow ⟨by decide, by decide, by decide⟩)) (congrArg PyData.int (by decide))) (tya_cons ty_int (tya_cons ty_int (tya_cons (Ty.is (ty_op ty_int ty_int (opt_pow ⟨by decide, by decide, by decide⟩)) (congrArg PyData.int (by decide))) tya_nil)))))) (by decide)
  show TyS W [some bx, some (dt K (.bool gr)), some (dt K (.int number)), some (dt K (linD (modL gr))), none, none, none, none, none, none] _ _ _ _ _
  refine tys_seqE (tys_set (T := exT fun n : Nat => gd (n ≤ 40) (dt K (.int (n : Nat)))) (ty_if (φ := fun _ => True) (tt_eqX (digI _ _ 12 rfl (by decide) (by decide)) ty_int) (fun _ => Ty.ex (A := fun n : Nat => gd (n ≤ 40) (dt K (.int (n : Nat)))) 40 ((Ty.is ty_int rfl : Ty W _ _ (dt K (.int ((40 : Nat) : Int)))).sub fun v H _ z => ⟨by decide, z⟩)) fun _ => (dig _ _ 8 _ rfl (by decide) (by decide) (Ty.is ty_int rfl)).sub fun v H _ ⟨k, hk, z⟩ => ⟨k, by omega, z⟩)) ?_
  refine TyS.openX (n := 4) rfl fun many => TyS.openG (n := 4) rfl fun hmany => ?_
  show TyS W [some bx, some (dt K (.bool gr)), some (dt K (.int number)), some (dt K (linD (modL gr))), some (dt K (.int (many : Nat))), none, none, none, none, none] _ _ _ _ _
  refine TyS.never (tys_own (tyl_lst tya_nil (by show 0 ≤ 1000000; decide)) fun D nb nm => ?_)
  show TyS (W.own D nb []) [some bx, some (dt K (.bool gr)), some (dt K (.int number)), some (dt K (linD (modL gr))), some (dt K (.int (many : Nat))), some (isV (.ref D)), none, none, none, none] _ _ _ _ _
  refine tys_seqX (α := { l : List RP // l.length = many ∧ ∀ p ∈ l, Drawn gr (2 ^ 102) p }) (W' := fun l => W.own D nb (l.1.map (pT K))) (Γ' := fun _ => [some bx, some (dt K (.bool gr)), some (dt K (.int number)), some (dt K (linD (modL gr))), some (dt K (.int (many : Nat))), some (isV (.ref D)), none, none, none, none]) ?_ fun l => ?_
  · refine tys_for (Wi := fun _ (l : List RP) => W.own D nb (l.map (pT K))) (Γi := fun i (l : List RP) => [some bx, some (dt K (.bool gr)), some (gd (l.length = i ∧ ∀ p ∈ l, Drawn gr (2 ^ 102) p) (dt K (.int number))), some (dt K (linD (modL gr))), some (dt K (.int (many : Nat))), some (isV (.ref D)), none, none, none, none]) [] (tyi_rng (n := many) (tya_cons (ty_var rfl) tya_nil) (by omega)) (fun _ _ => ⟨rfl, rfl⟩) (fun σ H g => ⟨g.1, EnvL.less (by exact ⟨fun _ _ _ _ h => h, fun _ _ _ _ h => h, fun _ _ _ _ h => ⟨⟨rfl, fun p z => by simp at z⟩, h⟩, fun _ _ _ _ h => h, fun _ _ _ _ h => h, fun _ _ _ _ h => h, True.intro⟩) g.2⟩) (fun i T' l hT => ?_) (fun l σ H g => ?_)
    · obtain ⟨hi, rfl⟩ := range_map_get hT
      refine ⟨_, tyg_name 6, TyS.openG (n := 2) rfl fun hl => ?_⟩
      obtain ⟨l1, l2⟩ := hl
      show TyS (W.own D nb (l.map (pT K))) [some bx, some (dt K (.bool gr)), some (dt K (.int number)), some (dt K (linD (modL gr))), some (dt K (.int (many : Nat))), some (isV (.ref D)), some (dt K (.int (i : Nat))), none, none, none] _ _ _ _ _
      have ml := modL_len gr
      refine tys_seqE (tys_set (T := inT K fun m => m ∈ modL gr) (any_sub (Ts := (modL gr).map fun n => dt K (.int n)) (ty_pick (n := (modL gr).length) ((ty_var rfl).sub fun v H _ z => by have z2 := data_lstT z; rw [List.map_map] at z2; exact z2) (dig _ _ (modL gr).length _ rfl ml.1 (by omega) (Ty.is (ty_cb (tya_cons (ty_var rfl) tya_nil) cbt_lenL) (by rw [List.length_map]))) (by rw [List.length_map]; exact Nat.le_refl _)) fun n hn v H z => ?_)) ?_
      · rw [List.length_map] at hn
        rw [List.getD_eq_getElem?_getD, List.getElem?_map, List.getElem?_eq_getElem hn] at z
        exact ⟨(modL gr)[n], List.getElem_mem hn, z⟩
      refine TyS.openX (n := 7) rfl fun m => TyS.openG (n := 7) rfl fun hm => ?_
      obtain ⟨m1, m2, m3⟩ := modL_ok m hm
      show TyS (W.own D nb (l.map (pT K))) [some bx, some (dt K (.bool gr)), some (dt K (.int number)), some (dt K (linD (modL gr))), some (dt K (.int (many : Nat))), some (isV (.ref D)), some (dt K (.int (i : Nat))), some (dt K (.int m)), none, none] _ _ _ _ _
      refine TyS.imp (tys_appendX (φ := Drawn gr (2 ^ 102)) (A := pT K) rfl (Ty.sub (ty_tup (K := K) (tya_cons (ty_addX (χ := fun i => i.natAbs ≤ 2 ^ 102) (ty_in (φ := fun i => i.natAbs ≤ 2 ^ 100) (ty_var rfl) hnum) (ty_mulX (χ := fun i => i.natAbs ≤ 2 ^ 50) (ty_in (φ := fun j => j = m) (ty_var rfl) rfl) (ty_subX (χ := fun i => i.natAbs ≤ 10) (digI _ _ 7 rfl (by decide) (by decide)) (ty_in (φ := fun i => i = 3) ty_int rfl) fun i j hi hj => by omega) fun i j hi hj => ?mul) fun i j hi hj => by omega) (tya_cons (ty_var rfl) tya_nil)) (by show 2 ≤ 1000000; decide)) fun v H _ z => ?pair) (by rw [List.length_map]; omega)) fun σ H ⟨x, g⟩ => ⟨l ++ [x.1], ?_⟩
      case mul =>
        have hj' : j.natAbs ≤ 10 := hj
        have hi2 : i = m := hi
        have a1 : i.natAbs ≤ 2 ^ 41 := by omega
        refine ⟨.inr ⟨by omega, by omega⟩, ?_⟩
        show (i * j).natAbs ≤ 2 ^ 50
        rw [Int.natAbs_mul]
        have a2 := Nat.mul_le_mul a1 hj'
        omega
      case pair =>
        obtain ⟨i, h1, h2⟩ := dt_pair (A := bx) z
        exact ⟨(i, m), ⟨hm, h1⟩, h2⟩
      rw [List.map_append]
      exact ⟨g.1, EnvL.less (by exact ⟨fun _ _ _ _ h => h, fun _ _ _ _ h => h, fun _ _ _ _ h => ⟨⟨by rw [List.length_append, l1]; rfl, fun p hp => (List.mem_append.mp hp).elim (l2 p) fun z => by rw [List.mem_singleton.mp z]; exact x.2⟩, h⟩, fun _ _ _ _ h => h, fun _ _ _ _ h => h, fun _ _ _ _ h => h, True.intro⟩) g.2⟩
    · obtain ⟨v, _, ⟨h1, h2⟩, _⟩ := g.2.get (i := 2) rfl
      rw [List.length_map, List.length_range] at h1
      exact ⟨⟨l, h1, h2⟩, g.1, EnvL.less (by exact ⟨fun _ _ _ _ h => h, fun _ _ _ _ h => h, fun _ _ _ _ h => h.2, fun _ _ _ _ h => h, fun _ _ _ _ h => h, fun _ _ _ _ h => h, True.intro⟩) g.2⟩
  · obtain ⟨l, l1, l2⟩ := l
    dsimp only
    refine tys_seqX (α := { l : List RP // l.length = many ∧ ∀ p ∈ l, Drawn gr (2 ^ 103) p }) (W' := fun l => W.own D nb (l.1.map (pT K))) (Γ' := fun _ => [some bx, some (dt K (.bool gr)), some (dt K (.int number)), some (dt K (linD (modL gr))), some (dt K (.int (many : Nat))), some (isV (.ref D)), none, none, none, none]) ?_ fun l => ?_
    · refine tys_if (φ := fun b => b = true → 1 < many) ((tt_and (φ := (· = decide ((1 : Int) < (many : Nat)))) (ψ := fun _ => True) (tt_test (ty_op (ty_var rfl) ty_int opt_gt)) fun _ => tt_eqX (digI _ _ 2 rfl (by decide) (by decide)) ty_int).sub fun b hb => ?_) (fun z => ?_) fun z => ?_
      · rcases hb with ⟨rfl, _⟩ | ⟨h1, _⟩
        · exact fun z => Bool.noConfusion z
        · intro _
          have := of_decide_eq_true h1.symm
          omega
      · have m1 := z rfl
        refine tys_rngX (φ := fun n => n ≤ 2) ((ty_addX (χ := fun i => 0 ≤ i ∧ i ≤ 2) (ty_in (φ := fun i => i = 1) ty_int rfl) (digI _ _ 2 rfl (by decide) (by decide)) fun i j hi hj => by omega).sub fun v H _ ⟨i, hi, z⟩ => ⟨i.toNat, by omega, by rw [Int.toNat_of_nonneg hi.1]; exact z⟩) (fun n hn => by omega) fun n hn => ?_
        refine tys_for (Wi := fun _ (l : List RP) => W.own D nb (l.map (pT K))) (Γi := fun i (l : List RP) => [some bx, some (dt K (.bool gr)), some (gd (l.length = many ∧ ∀ p ∈ l, Drawn gr (2 ^ 102 + 10 * i) p) (dt K (.int number))), some (dt K (linD (modL gr))), some (dt K (.int (many : Nat))), some (isV (.ref D)), none, none, none, none]) l (tyi_itr (K := K)) (fun _ _ => ⟨rfl, rfl⟩) (fun σ H g => ⟨g.1, EnvL.less (by exact ⟨fun _ _ _ _ h => h, fun _ _ _ _ h => h, fun _ _ _ _ h => ⟨⟨l1, l2⟩, h⟩, fun _ _ _ _ h => h, fun _ _ _ _ h => h, fun _ _ _ _ h => h, True.intro⟩) g.2⟩) (fun i T' l hT => ?_) (fun l σ H g => ?_)
        · obtain ⟨hi, rfl⟩ := range_map_get hT
          refine ⟨_, tyg_name 8, TyS.openG (n := 2) rfl fun hl => ?_⟩
          obtain ⟨k1, k2⟩ := hl
          show TyS (W.own D nb (l.map (pT K))) [some bx, some (dt K (.bool gr)), some (dt K (.int number)), some (dt K (linD (modL gr))), some (dt K (.int (many : Nat))), some (isV (.ref D)), none, none, some (dt K (.int (i : Nat))), none] _ _ _ _ _
          refine tys_seqE (tys_set (T := digT K many) (dig _ _ many _ rfl (by omega) (by omega) (ty_var rfl))) ?_
          refine TyS.openX (n := 9) rfl fun at_ => TyS.openG (n := 9) rfl fun hat => ?_
          show TyS (W.own D nb (l.map (pT K))) [some bx, some (dt K (.bool gr)), some (dt K (.int number)), some (dt K (linD (modL gr))), some (dt K (.int (many : Nat))), some (isV (.ref D)), none, none, some (dt K (.int (i : Nat))), some (dt K (.int (at_ : Nat)))] _ _ _ _ _
          have hat' : at_ < l.length := by omega
          have ep : (l.map (pT K))[at_]? = some (pT K l[at_]) := by rw [List.getElem?_map, List.getElem?_eq_getElem hat']; rfl
          have mp := k2 _ (List.getElem_mem hat')
          refine TyS.imp (tys_putX (φ := Drawn gr (2 ^ 102 + 10 * (i + 1))) (A := pT K) (k := at_) rfl (Ty.sub (ty_tup (K := K) (tya_cons (ty_addX (χ := fun i' => i'.natAbs ≤ 2 ^ 102 + 10 * (i + 1)) (ty_in (φ := fun i' => i' = l[at_].1 + 1) (ty_op (ty_p1 (ty_ixO rfl (ty_var rfl) ep)) ty_int opt_add) rfl) (digI _ _ 3 rfl (by decide) (by decide)) fun a b ha hb => ?bd) (tya_cons (ty_p2 (ty_ixO rfl (ty_var rfl) ep)) tya_nil)) (by show 2 ≤ 1000000; decide)) fun v H _ z => ?pair) (ty_var rfl) (by rw [List.length_map]; exact hat')) fun σ H ⟨x, g⟩ => ⟨l.set at_ x.1, ?_⟩
          case bd =>
            have := mp.2
            omega
          case pair =>
            obtain ⟨i', h1, h2⟩ := dt_pair (A := bx) z
            exact ⟨(i', l[at_].2), ⟨mp.1, h1⟩, h2⟩
          rw [set_map] at g
          exact ⟨g.1, EnvL.less (by exact ⟨fun _ _ _ _ h => h, fun _ _ _ _ h => h, fun _ _ _ _ h => ⟨⟨by rw [List.length_set, k1], fun p hp => (mem_set hp).elim (fun z => ⟨(k2 p z).1, by have := (k2 p z).2; omega⟩) fun z => by rw [z]; exact x.2⟩, h⟩, fun _ _ _ _ h => h, fun _ _ _ _ h => h, fun _ _ _ _ h => h, True.intro⟩) g.2⟩
        · obtain ⟨v, _, ⟨h1, h2⟩, _⟩ := g.2.get (i := 2) rfl
          rw [List.length_map, List.length_range] at h2
          exact ⟨⟨l, h1, fun p hp => ⟨(h2 p hp).1, by have := (h2 p hp).2; omega⟩⟩, g.1, EnvL.less (by exact ⟨fun _ _ _ _ h => h, fun _ _ _ _ h => h, fun _ _ _ _ h => h.2, fun _ _ _ _ h => h, fun _ _ _ _ h => h, fun _ _ _ _ h => h, True.intro⟩) g.2⟩
      · exact tys_next.imp fun σ H g => ⟨⟨l, l1, fun p hp => ⟨(l2 p hp).1, by have := (l2 p hp).2; omega⟩⟩, g⟩
    · obtain ⟨l, l1, l2⟩ := l
      dsimp only
      refine tys_fin (i := 5) rfl nm (tys_retW (Ty.sub (tyl_lst (Ts := [lstT (l.map (pT K)), dt K (.int number)]) (tya_cons (ty_var rfl) (tya_cons (ty_var rfl) tya_nil)) (by show 2 ≤ 1000000; decide)).ty fun v H _ z => ?_))
      refine ⟨(l, number), rests_of (g := gr) (by show l.length ≤ 40; omega) fun p hp => ⟨(l2 p hp).1, by have := (l2 p hp).2; omega⟩, ?_⟩
      obtain ⟨a, xs, rfl, h0, h1, h2⟩ := z
      match xs, h2 with
      | [x, y], ⟨hx, hy, _⟩ =>
        refine .lst h1 h0 (.cons (lstT_data (B := W.B) (ds := l.map pairD) ?_) (.cons hy .nil))
        rw [List.map_map]; exact hx
end
section
variable {P : Program} {w : World} {K : PySem.W.Frag} {mg : Str → Option Value} {base : Heap}
/-- what is compared: no deeper than n, nothing too long, no dict -/
def smOk : Nat → PyData → Prop
  | 0, _ => False
  | n + 1, .list ds => ds.length ≤ 1000 ∧ ∀ e ∈ ds, smOk n e
  | n + 1, .tuple ds => ds.length ≤ 1000 ∧ ∀ e ∈ ds, smOk n e
  | _ + 1, .str x => x.length ≤ 1000
  | _ + 1, .dict _ => False
  | _ + 1, _ => True
def sr_law_same (K : PySem.W.Frag) (n : Nat) : Sp := spT (smOk n) (fun d => [dt K d, dt K d]) (fun _ => dt K (.bool true))
def sp_law_same (K : PySem.W.Frag) : Sp := sr_law_same K 8
theorem cutS_one {z : Str} {k c : Nat} (h : z.cps.toList[k]? = some c) : cutS z (some (k : Int)) (some ((k : Int) + 1)) = ⟨#[c]⟩ := by
  have hk : k < z.cps.toList.length := (List.getElem?_eq_some_iff.mp h).1
  have hl : z.cps.toList.length = z.length := rfl
  unfold cutS
  have e1 : HT.sIx z.length 0 (some (k : Int)) = k := by rw [HT.sIx_nat]; omega
  have e2 : HT.sIx z.length z.length (some ((k : Int) + 1)) = k + 1 := by
    have e3 : ((k : Int) + 1) = ((k + 1 : Nat) : Int) := rfl
    rw [e3, HT.sIx_nat]; omega
  rw [e1, e2]
  have e4 : k + 1 - k = 1 := by omega
  rw [e4, List.drop_eq_getElem_cons hk, List.take_succ_cons, List.take_zero]
  have e5 := (List.getElem?_eq_some_iff.mp h).2
  rw [e5]
theorem okr_law_same (T : Tx P K mg) : ∀ n : Nat, FnOk P w K mg base (L2.CX P w) (0 + n) T.a_law_same T.f_law_same ["told", "due"] (sr_law_same K n)
  | 0 => ⟨fun vs H Q E ⟨_, _, _, _, _, _, z, _⟩ => z.elim, fun A outer s H args us vs Q E _ _ _ _ ⟨_, _, _, _, _, _, z, _⟩ => z.elim⟩
  | n + 1 => by
    have G_law_same := okr_law_same T n
    have nd := sc_law_same.nd
    refine fn_ty T.F_law_same sc_law_same (fun x _ => rfl) fun cdv Ar outer s H E hr => ⟨_, (pss_cons (ps_if (PW.pt (pw_or (pt_cmpR op_isN (pv 1) pe_non (nomark _)) (pw_or1 (pt_val (k_isi (K := K) rfl T.m_isinstance (pa_cons (pv 1) (pa_cons (bt_bool T.m_bool) pa_nil))))))) (pss_one (ps_ret (pe_ifExp (pt_cmpR op_isN (pv 1) pe_non (nomark _)) (pe_cmpR op_isN (pv 0) pe_non (nomark _)) (pe_and (k_isi (K := K) rfl T.m_isinstance (pa_cons (pv 0) (pa_cons (bt_bool T.m_bool) pa_nil))) (pe_one (pe_cmpR (k_eq (K := K) rfl hr.units) (pe_cmpR op_isBl (pv 0) pe_bl (nomark _)) (pe_cmpR op_isBl (pv 1) pe_bl (nomark _)) (nomark _))))))) pss_nil)
    (pss_cons (ps_if (pt_val (k_isi (K := K) rfl T.m_isinstance (pa_cons (pv 1) (pa_cons (bt_int T.m_int) pa_nil)))) (pss_one (ps_ret (pe_and (k_isi (K := K) rfl T.m_isinstance (pa_cons (pv 0) (pa_cons (bt_int T.m_int) pa_nil))) (pe_and (pe_not (k_isi (K := K) rfl T.m_isinstance (pa_cons (pv 0) (pa_cons (bt_bool T.m_bool) pa_nil)))) (pe_one (pe_cmpR (k_eq (K := K) rfl hr.units) (pe_op op_sub (bi_int T.m_int (pa_cons (pv 0) pa_nil)) (pv 1)) pe_int (nomark _))))))) pss_nil)
    (pss_cons (ps_if (pt_val (k_isi (K := K) rfl T.m_isinstance (pa_cons (pv 1) (pa_cons (bt_str T.m_str) pa_nil)))) (pss_cons (pset 2 nd (pe_and (k_isi (K := K) rfl T.m_isinstance (pa_cons (pv 0) (pa_cons (bt_str T.m_str) pa_nil))) (pe_one (pe_cmpR (k_eq (K := K) rfl hr.units) (k_len (K := K) rfl T.m_len (pa_cons (pv 0) pa_nil)) (k_len (K := K) rfl T.m_len (pa_cons (pv 1) pa_nil)) (nomark _)))))
    (pss_one (ps_ret (pe_and (pv 2) (pe_one (pe_cmpR (k_eq (K := K) rfl hr.units) (plc [("k", 3)] nd (pi_range1 rfl T.m_range (pa_cons (k_len (K := K) rfl T.m_len (pa_cons (pv 1) pa_nil)) pa_nil)) (fun _ _ _ _ _ => (pgn 3 nd)) (fun _ _ _ _ _ => (pts_one (pt_cmpR (k_ne (K := K) rfl hr.units) (pe_slice (k_sl (K := K) rfl) (pv 0) (po_some (pv 3)) (po_some (pe_op (k_add (K := K) rfl) (pv 3) pe_int))) (pe_ix (k_ix (K := K) rfl) (pv 1) (pv 3) (fun _ _ => rfl)) (nomark _)))) (fun _ _ _ _ _ => (pv 3)) (by kernel_rfl)) (pe_lst pa_nil) (nomark _))))))) pss_nil)
    (pss_cons (ps_if (PW.pt (pw_or (pt_cmpR (k_ne (K := K) rfl hr.units) (k_isi (K := K) rfl T.m_isinstance (pa_cons (pv 0) (pa_cons (bt_list T.m_list) pa_nil))) (k_isi (K := K) rfl T.m_isinstance (pa_cons (pv 1) (pa_cons (bt_list T.m_list) pa_nil))) (nomark _)) (pw_or (pt_not (pt_val (k_isi2 (K := K) rfl T.m_isinstance (pa_cons (pv 0) (pa_cons (pe_tup (pa_cons (bt_list T.m_list) (pa_cons (bt_tuple T.m_tuple) pa_nil))) pa_nil))))) (pw_or1 (pt_cmpR (k_ne (K := K) rfl hr.units) (k_len (K := K) rfl T.m_len (pa_cons (pv 0) pa_nil)) (k_len (K := K) rfl T.m_len (pa_cons (pv 1) pa_nil)) (nomark _)))))) (pss_one (ps_ret pe_bl)) pss_nil)
    (pss_one (ps_ret (pe_cmpR (k_eq (K := K) rfl hr.units) (plc [("k", 3)] nd (pi_range1 rfl T.m_range (pa_cons (k_len (K := K) rfl T.m_len (pa_cons (pv 1) pa_nil)) pa_nil)) (fun _ _ _ _ _ => (pgn 3 nd)) (fun _ _ _ _ _ => (pts_one (pt_not (pt_val (pcall G_law_same hr T.D_law_same (pa_cons (pe_ix (k_ix (K := K) rfl) (pv 0) (pv 3) (fun _ _ => rfl)) (pa_cons (pe_ix (k_ix (K := K) rfl) (pv 1) (pv 3) (fun _ _ => rfl)) pa_nil))))))) (fun _ _ _ _ _ => (pv 3)) (by kernel_rfl)) (pe_lst pa_nil) (nomark _)))))))), fun W x hC => ?_⟩
    cases x with
    | none =>
      refine tys_guard (φ := (· = true)) (tt_orTr (by tm_at "ttis")) (fun _ => tys_retW (ty_if (φ := (· = true)) (by tm_at "ttis") (fun _ => by tm_at "tyis") fun z => Bool.noConfusion z)) (fun z => Bool.noConfusion z)
    | bool b =>
      refine tys_guard (φ := (· = true)) (by tm_at "ttis") (fun _ => tys_retW (ty_if (φ := (· = false)) (by tm_at "ttis") (fun z => Bool.noConfusion z) fun _ => ?_)) (fun z => Bool.noConfusion z)
      refine' Ty.is ?h1 ?h2
      case h1 => tm_at "ty"
      case h2 => cases b <;> rfl
    | int i =>
      refine tys_guard (φ := (· = false)) (by tm_at "ttis") (fun z => Bool.noConfusion z) (fun _ => tys_guard (φ := (· = true)) (by tm_at "ttis") (fun _ => tys_retW ?_) (fun z => Bool.noConfusion z))
      refine' Ty.is ?h1 ?h2
      case h1 => tm_at "ty"
      case h2 => simp [isD, tyD]
    | str z =>
      have hz : z.length ≤ 1000 := hC
      refine tys_guard (φ := (· = false)) (by tm_at "ttis") (fun z => Bool.noConfusion z) (fun _ => tys_guard (φ := (· = false)) (by tm_at "ttis") (fun z => Bool.noConfusion z) (fun _ => tys_guard (φ := (· = true)) (by tm_at "ttis") (fun _ => ?_) (fun z => Bool.noConfusion z)))
      refine tys_seqE (W' := W) (Γ' := [some (dt K (.str z)), some (dt K (.str z)), some (dt K (.bool true)), none]) (tys_set (Ty.is (ty_andV (a := true) (b := true) (by tm_at "tyis") fun _ => Ty.is (ty_op (ty_cb (tya_cons (ty_var rfl) tya_nil) (cbt_lenS (by omega))) (ty_cb (tya_cons (ty_var rfl) tya_nil) (cbt_lenS (by omega))) opt_eqI) (by simp)) rfl)) (tys_retW (Ty.is (ty_andV (a := true) (b := true) (ty_var rfl) fun _ => ty_op (ty_lstG (f := fun k : Nat => .int (k : Nat)) (xs := (List.range z.length).filter fun _ => false) ?_ |>.is ?_) (ty_lstD (ds := []) tya_nil (by decide)) opt_eqL0) rfl))
      · refine tyl_filter (fun k : Nat => dt K (.int (k : Nat))) (fun k : Nat => dt K (.int (k : Nat))) (fun _ => false) (tyi_rng (n := z.length) (tya_cons (ty_cb (tya_cons (ty_var rfl) tya_nil) (cbt_lenS (by omega))) tya_nil) (by omega)) (by rw [List.length_range]; omega) (by decide) fun W' k hk => ⟨?_, fun z => Bool.noConfusion z⟩
        have hk' : k < z.cps.toList.length := List.mem_range.mp hk
        have hc := List.getElem?_eq_getElem hk'
        exact Tt.is (tt_test (ty_op (ty_slS (by omega) (ty_var rfl) (tyo_some (ty_var rfl)) (tyo_some (ty_op (ty_var rfl) ty_int opt_add))) (ty_op (ty_var rfl) (ty_var rfl) (opt_ixS (by omega) (atI_nat hc))) opt_neS)) (by rw [cutS_one hc]; simp)
      · simp
    | list ds =>
      obtain ⟨h1, h2⟩ : ds.length ≤ 1000 ∧ ∀ e ∈ ds, smOk n e := hC
      refine tys_guard (φ := (· = false)) (by tm_at "ttis") (fun z => Bool.noConfusion z) (fun _ => tys_guard (φ := (· = false)) (by tm_at "ttis") (fun z => Bool.noConfusion z) (fun _ => tys_guard (φ := (· = false)) (by tm_at "ttis") (fun z => Bool.noConfusion z) fun _ => tys_guard (φ := (· = false)) ?_ (fun z => Bool.noConfusion z) fun _ => TyS.never (tys_retW (ty_op (ty_lstG (f := fun k : Nat => .int (k : Nat)) (xs := (List.range ds.length).filter fun _ => false) ?_ |>.is ?_) (ty_lstD (ds := []) tya_nil (by decide)) opt_eqL0))))
      · refine' Tt.is ?h1 ?h2
        case h1 => tm_at "tt"
        case h2 => simp [isD, tyD]
      · refine tyl_filter (fun k : Nat => dt K (.int (k : Nat))) (fun k : Nat => dt K (.int (k : Nat))) (fun _ => false) (tyi_rng (n := ds.length) (tya_cons (ty_cb (tya_cons (ty_var rfl) tya_nil) cbt_lenL) tya_nil) (by omega)) (by rw [List.length_range]; omega) (by decide) fun W' k hk => ⟨?_, fun z => Bool.noConfusion z⟩
        have hk' : k < ds.length := List.mem_range.mp hk
        have e := List.getElem?_eq_getElem hk'
        exact Tt.is (tt_notB (tt_B (ty_call (ds[k]) (h2 _ (List.getElem_mem hk')) (tya_cons (ty_op (ty_var rfl) (ty_var rfl) (opt_ixL (atI_nat e))) (tya_cons (ty_op (ty_var rfl) (ty_var rfl) (opt_ixL (atI_nat e))) tya_nil))))) rfl
      · simp
    | tuple ds =>
      obtain ⟨h1, h2⟩ : ds.length ≤ 1000 ∧ ∀ e ∈ ds, smOk n e := hC
      refine tys_guard (φ := (· = false)) (by tm_at "ttis") (fun z => Bool.noConfusion z) (fun _ => tys_guard (φ := (· = false)) (by tm_at "ttis") (fun z => Bool.noConfusion z) (fun _ => tys_guard (φ := (· = false)) (by tm_at "ttis") (fun z => Bool.noConfusion z) fun _ => tys_guard (φ := (· = false)) ?_ (fun z => Bool.noConfusion z) fun _ => TyS.never (tys_retW (ty_op (ty_lstG (f := fun k : Nat => .int (k : Nat)) (xs := (List.range ds.length).filter fun _ => false) ?_ |>.is ?_) (ty_lstD (ds := []) tya_nil (by decide)) opt_eqL0))))
      · refine' Tt.is ?h1 ?h2
        case h1 => tm_at "tt"
        case h2 => simp [isD, tyD]
      · refine tyl_filter (fun k : Nat => dt K (.int (k : Nat))) (fun k : Nat => dt K (.int (k : Nat))) (fun _ => false) (tyi_rng (n := ds.length) (tya_cons (ty_cb (tya_cons (ty_var rfl) tya_nil) cbt_lenT) tya_nil) (by omega)) (by rw [List.length_range]; omega) (by decide) fun W' k hk => ⟨?_, fun z => Bool.noConfusion z⟩
        have hk' : k < ds.length := List.mem_range.mp hk
        have e := List.getElem?_eq_getElem hk'
        exact Tt.is (tt_notB (tt_B (ty_call (ds[k]) (h2 _ (List.getElem_mem hk')) (tya_cons (ty_op (ty_var rfl) (ty_var rfl) (opt_ixT (atI_nat e))) (tya_cons (ty_op (ty_var rfl) (ty_var rfl) (opt_ixT (atI_nat e))) tya_nil))))) rfl
      · simp
    | dict kvs => exact (show False from hC).elim
theorem ok_law_same (T : Tx P K mg) : FnOk P w K mg base (L2.CX P w) 8 T.a_law_same T.f_law_same ["told", "due"] (sp_law_same K) := okr_law_same T 8
end
section
variable {P : Program} {w : World} {K : PySem.W.Frag} {mg : Str → Option Value} {base : Heap}
/-- as smOk; a dict of one text and an int may be -/
def stOk : Nat → PyData → Prop
  | 0, _ => False
  | n + 1, .list ds => ds.length ≤ 1000 ∧ ∀ e ∈ ds, stOk n e
  | n + 1, .tuple ds => ds.length ≤ 1000 ∧ ∀ e ∈ ds, stOk n e
  | _ + 1, .str x => x.length ≤ 1000
  | n + 1, .dict kvs => 0 < n ∧ ∃ (x : Str) (i : Int), kvs = [(.str x, .int i)]
  | _ + 1, _ => True
def sr_law_still (K : PySem.W.Frag) (n : Nat) : Sp := spT (stOk n) (fun d => [dt K d, dt K d]) (fun _ => dt K (.bool true))
def sp_law_still (K : PySem.W.Frag) : Sp := sr_law_still K 4
theorem RpK1 {M : Addr → Prop} {K : PySem.W.Frag} {H : Hp} {kvs : List (Key × V)} {l : List (PyData × PyData)} {x : Str} {i : Int} (h : RpK M K H kvs l) (e : l = [(.str x, .int i)]) : kvs = [(.inr x, .int i)] := by
  cases h with
  | nil => cases e
  | @cons k v vs d ds h r =>
    injection e with e1 e2
    subst e2
    cases r
    injection e1 with e3 e4
    subst e4
    cases h
    cases k with
    | inl z => cases e3
    | inr z => cases e3; rfl
/-- a walk over the keys of a dict of one entry, where the test is false -/
theorem ty_keys1 {W : Wd} {Γ : Gam} {K : PySem.W.Frag} {x : Str} {i : Int} {n : Nat} (hn : 0 < n) (hΓ : Γ = [some (dt K (.dict [(.str x, .int i)])), some (dt K (.dict [(.str x, .int i)])), none, none]) : Ty W Γ (tLockE (tLc (iKeys (tVar 1)) (gName 2) (tOr (tB (tDNotIn (tVar 2) (tVar 0))) (tNot (tB (tCall (sr_law_still K n) [] E0 (tCons (tDGet (tVar 0) (tVar 2)) (tCons (tDGet (tVar 1) (tVar 2)) tNil)))))) (tVar 2) [2])) (dt K (.list [])) := fun σ H c g Q q => by
  subst hΓ
  match σ, g with
  | [some u, some v, s2, s3], g =>
    obtain ⟨g1, g2, _⟩ := g
    cases g1 with
    | @dic d0 kvs0 _ e0 r0 =>
    cases g2 with
    | @dic d kvs _ e1 r1 =>
    obtain rfl := RpK1 r0 rfl
    obtain rfl := RpK1 r1 rfl
    refine ⟨d, .dK [(.inr x, .int i)], e1, trivial, fun od => ⟨.ref d, rfl, d, od, rfl, .inl ⟨[(.inr x, .int i)], upd_same, fun D hD => ?_⟩⟩⟩
    have hd1 : upd H d (.frz od (.dK [(.inr x, .int i)])) d = some (.frz od (.dK [(.inr x, .int i)])) := upd_same
    have nD : d ≠ D := ne_of_none hd1 hD
    have HD : H D = none := by rw [upd_ne (Ne.symm nD)] at hD; exact hD
    have fz : ∀ {H2 : Hp}, Ex (fun _ => False) (upd (upd H d (.frz od (.dK [(.inr x, .int i)]))) D (.lst [])) H2 → H2 d = some (.frz od (.dK [(.inr x, .int i)])) := fun {H2} h => h.keep (by rw [upd_ne nD]; exact hd1) id
    have rd : ∀ {H2 : Hp} {b : Addr}, H b = some (.dK [(.inr x, .int i)]) → Ex (fun _ => False) (upd (upd H d (.frz od (.dK [(.inr x, .int i)]))) D (.lst [])) H2 → DGet H2 b (.str x) (some (.int i)) := fun {H2 b} hb h => by
      refine .inl ⟨[(.inr x, .int i)], .inr x, ?_, rfl, (valV_pos (p := ((Sum.inr x : Key), V.int i)) (r := []) (k := Sum.inr x) rfl).symm⟩
      by_cases eb : b = d
      · subst eb
        exact .inr ⟨od, fz h⟩
      · exact .inl (h.keep (by rw [upd_ne (ne_of_none hb HD), upd_ne eb]; exact hb) id)
    refine lc_it walk_keys (fun _ H2 => Ex (fun _ => False) (upd (upd H d (.frz od (.dK [(.inr x, .int i)]))) D (.lst [])) H2) (Ex.refl _ _) (fun _ H2 _ h => fz h) ?_ ?_
    · rintro j xv H2 H3 hj h2 ⟨rfl, k, v', hk, rfl⟩
      obtain rfl : j = 0 := by simpa using hj
      obtain ⟨rfl, rfl⟩ : Sum.inr x = k ∧ V.int i = v' := by simpa using hk
      refine ⟨rfl, ?_⟩
      refine ⟨.str x, rfl, .ref d0, rfl, d0, some (.int i), rfl, rd e0 h2, false, rfl, ?_⟩
      dsimp only
      rw [if_neg Bool.false_ne_true]
      refine ⟨.ref d0, rfl, .str x, rfl, d0, .int i, rfl, rd e0 h2, .ref d, rfl, .str x, rfl, d, .int i, rfl, rd e1 h2, ?_⟩
      refine ⟨fun _ => False, fun _ => False, .int i, fun _ z => z, fun _ z => z.elim, fun _ z => z.elim, ?_, ⟨.int i, .int i, True.intro⟩, fun v H' e hv => ?_⟩
      · cases n with
        | zero => exact absurd hn (Nat.lt_irrefl _)
        | succ m => exact True.intro
      · cases hv
        exact ⟨true, rfl, by dsimp only; rw [if_neg (by decide)]; exact h2.trans e⟩
    · intro H2 h
      refine ⟨fz h, q _ _ (fun a o ha => .inl ?_) (.lst (xs := []) ?_ (c.nm HD) .nil)⟩
      · by_cases ea : a = d
        · subst ea
          rw [e1] at ha
          cases ha
          exact upd_same
        · rw [upd_ne ea]
          exact h.keep (by rw [upd_ne (ne_of_none ha HD), upd_ne ea]; exact ha) id
      · rw [upd_ne (Ne.symm nD)]
        exact h.keep upd_same id
theorem okr_law_still (T : Tx P K mg) : ∀ n : Nat, FnOk P w K mg base (L2.CX P w) (8 + n) T.a_law_still T.f_law_still ["told", "due"] (sr_law_still K n)
  | 0 => ⟨fun vs H Q E ⟨_, _, _, _, _, _, z, _⟩ => z.elim, fun A outer s H args us vs Q E _ _ _ _ ⟨_, _, _, _, _, _, z, _⟩ => z.elim⟩
  | n + 1 => by
    have G_law_still := okr_law_still T n
    have G_law_same := ok_law_same (w := w) (base := base) T
    have nd := sc_law_still.nd
    refine fn_ty T.F_law_still sc_law_still (fun x _ => rfl) fun cdv Ar outer s H E hr => ⟨_, (pss_cons (ps_if (pt_val (k_isi (K := K) rfl T.m_isinstance (pa_cons (pv 1) (pa_cons (bt_dict T.m_dict) pa_nil)))) (pss_cons (ps_if (PW.pt (pw_or (pt_not (pt_val (k_isi (K := K) rfl T.m_isinstance (pa_cons (pv 0) (pa_cons (bt_dict T.m_dict) pa_nil))))) (pw_or1 (pt_cmpR (k_ne (K := K) rfl hr.units) (k_lenA (K := K) rfl T.m_len (pa_cons (pv 0) pa_nil)) (k_lenA (K := K) rfl T.m_len (pa_cons (pv 1) pa_nil)) (nomark _))))) (pss_one (ps_ret pe_bl)) pss_nil)
    (pss_one (ps_ret (pe_cmpR (k_eq (K := K) rfl hr.units) (pe_lock (plc [("key", 2)] nd (pi_keys (pv 1)) (fun _ _ _ _ _ => (pgn 2 nd)) (fun _ _ _ _ _ => (pts_one (PW.pt (pw_or (pt_cmp (pc_dnotin (hu1 hr.units) (pv 2) (pv 0)) rfl) (pw_or1 (pt_not (pt_val (pcall G_law_still hr T.D_law_still (pa_cons (pe_dget (hu1 hr.units) (pv 0) (pv 2) (fun _ _ => rfl)) (pa_cons (pe_dget (hu1 hr.units) (pv 1) (pv 2) (fun _ _ => rfl)) pa_nil)))))))))) (fun _ _ _ _ _ => (pv 2)) (by kernel_rfl))) (pe_lst pa_nil) (nomark _))))) pss_nil)
    (pss_cons (ps_if (pt_val (k_isi2 (K := K) rfl T.m_isinstance (pa_cons (pv 1) (pa_cons (pe_tup (pa_cons (bt_list T.m_list) (pa_cons (bt_tuple T.m_tuple) pa_nil))) pa_nil)))) (pss_cons (ps_if (PW.pt (pw_or (pt_cmpR (k_ne (K := K) rfl hr.units) (k_isi (K := K) rfl T.m_isinstance (pa_cons (pv 0) (pa_cons (bt_list T.m_list) pa_nil))) (k_isi (K := K) rfl T.m_isinstance (pa_cons (pv 1) (pa_cons (bt_list T.m_list) pa_nil))) (nomark _)) (pw_or (pt_cmpR (k_ne (K := K) rfl hr.units) (k_isi (K := K) rfl T.m_isinstance (pa_cons (pv 0) (pa_cons (bt_tuple T.m_tuple) pa_nil))) (k_isi (K := K) rfl T.m_isinstance (pa_cons (pv 1) (pa_cons (bt_tuple T.m_tuple) pa_nil))) (nomark _)) (pw_or1 (pt_cmpR (k_ne (K := K) rfl hr.units) (k_lenA (K := K) rfl T.m_len (pa_cons (pv 0) pa_nil)) (k_lenA (K := K) rfl T.m_len (pa_cons (pv 1) pa_nil)) (nomark _)))))) (pss_one (ps_ret pe_bl)) pss_nil)
    (pss_one (ps_ret (pe_cmpR (k_eq (K := K) rfl hr.units) (plc [("k", 3)] nd (pi_range1 rfl T.m_range (pa_cons (k_lenA (K := K) rfl T.m_len (pa_cons (pv 1) pa_nil)) pa_nil)) (fun _ _ _ _ _ => (pgn 3 nd)) (fun _ _ _ _ _ => (pts_one (pt_not (pt_val (pcall G_law_still hr T.D_law_still (pa_cons (pe_ix (k_ix (K := K) rfl) (pv 0) (pv 3) (fun _ _ => rfl)) (pa_cons (pe_ix (k_ix (K := K) rfl) (pv 1) (pv 3) (fun _ _ => rfl)) pa_nil))))))) (fun _ _ _ _ _ => (pv 3)) (by kernel_rfl)) (pe_lst pa_nil) (nomark _))))) pss_nil)
    (pss_one (ps_ret (pcall G_law_same (hr.mono (Nat.le_add_right _ _)) T.D_law_same (pa_cons (pv 0) (pa_cons (pv 1) pa_nil))))))), fun W x hC => ?_⟩
    cases x with
    | dict kvs =>
      obtain ⟨hn, x, i, rfl⟩ : 0 < n ∧ ∃ (x : Str) (i : Int), kvs = [(.str x, .int i)] := hC
      refine tys_guard (φ := (· = true)) (by tm_at "ttis") (fun _ => ?_) fun z => Bool.noConfusion z
      refine tys_guard (φ := (· = false)) (Tt.is (tt_orB (a := false) (by tm_at "ttis") fun _ => tt_test (ty_op (ty_cb (tya_cons (ty_var rfl) tya_nil) cbt_lenDict) (ty_cb (tya_cons (ty_var rfl) tya_nil) cbt_lenDict) opt_neI)) (by simp)) (fun z => Bool.noConfusion z) fun _ => TyS.never (tys_retW (ty_op (ty_keys1 hn rfl) (ty_lstD (ds := []) tya_nil (by decide)) opt_eqL0))
    | list ds =>
      obtain ⟨h1, h2⟩ : ds.length ≤ 1000 ∧ ∀ e ∈ ds, stOk n e := hC
      refine tys_guard (φ := (· = false)) (by tm_at "ttis") (fun z => Bool.noConfusion z) fun _ => tys_guard (φ := (· = true)) (by tm_at "ttis") (fun _ => ?_) fun z => Bool.noConfusion z
      refine tys_guard (φ := (· = false)) ?_ (fun z => Bool.noConfusion z) fun _ => TyS.never (tys_retW (ty_op (ty_lstG (f := fun k : Nat => .int (k : Nat)) (xs := (List.range ds.length).filter fun _ => false) ?_ |>.is ?_) (ty_lstD (ds := []) tya_nil (by decide)) opt_eqL0))
      · exact Tt.is (tt_orB (a := false) (by tm_at "ttis") fun _ => tt_orB (a := false) (by tm_at "ttis") fun _ => tt_test (ty_op (ty_cb (tya_cons (ty_var rfl) tya_nil) (cbt_lenA cbt_lenL)) (ty_cb (tya_cons (ty_var rfl) tya_nil) (cbt_lenA cbt_lenL)) opt_neI)) (by simp)
      · refine tyl_filter (fun k : Nat => dt K (.int (k : Nat))) (fun k : Nat => dt K (.int (k : Nat))) (fun _ => false) (tyi_rng (n := ds.length) (tya_cons (ty_cb (tya_cons (ty_var rfl) tya_nil) (cbt_lenA cbt_lenL)) tya_nil) (by omega)) (by rw [List.length_range]; omega) (by decide) fun W' k hk => ⟨?_, fun z => Bool.noConfusion z⟩
        have hk' : k < ds.length := List.mem_range.mp hk
        have e := List.getElem?_eq_getElem hk'
        exact Tt.is (tt_notB (tt_B (ty_call (ds[k]) (h2 _ (List.getElem_mem hk')) (tya_cons (ty_op (ty_var rfl) (ty_var rfl) (opt_ixL (atI_nat e))) (tya_cons (ty_op (ty_var rfl) (ty_var rfl) (opt_ixL (atI_nat e))) tya_nil))))) rfl
      · simp
    | tuple ds =>
      obtain ⟨h1, h2⟩ : ds.length ≤ 1000 ∧ ∀ e ∈ ds, stOk n e := hC
      refine tys_guard (φ := (· = false)) (by tm_at "ttis") (fun z => Bool.noConfusion z) fun _ => tys_guard (φ := (· = true)) (by tm_at "ttis") (fun _ => ?_) fun z => Bool.noConfusion z
      refine tys_guard (φ := (· = false)) ?_ (fun z => Bool.noConfusion z) fun _ => TyS.never (tys_retW (ty_op (ty_lstG (f := fun k : Nat => .int (k : Nat)) (xs := (List.range ds.length).filter fun _ => false) ?_ |>.is ?_) (ty_lstD (ds := []) tya_nil (by decide)) opt_eqL0))
      · exact Tt.is (tt_orB (a := false) (by tm_at "ttis") fun _ => tt_orB (a := false) (by tm_at "ttis") fun _ => tt_test (ty_op (ty_cb (tya_cons (ty_var rfl) tya_nil) (cbt_lenA cbt_lenT)) (ty_cb (tya_cons (ty_var rfl) tya_nil) (cbt_lenA cbt_lenT)) opt_neI)) (by simp)
      · refine tyl_filter (fun k : Nat => dt K (.int (k : Nat))) (fun k : Nat => dt K (.int (k : Nat))) (fun _ => false) (tyi_rng (n := ds.length) (tya_cons (ty_cb (tya_cons (ty_var rfl) tya_nil) (cbt_lenA cbt_lenT)) tya_nil) (by omega)) (by rw [List.length_range]; omega) (by decide) fun W' k hk => ⟨?_, fun z => Bool.noConfusion z⟩
        have hk' : k < ds.length := List.mem_range.mp hk
        have e := List.getElem?_eq_getElem hk'
        exact Tt.is (tt_notB (tt_B (ty_call (ds[k]) (h2 _ (List.getElem_mem hk')) (tya_cons (ty_op (ty_var rfl) (ty_var rfl) (opt_ixT (atI_nat e))) (tya_cons (ty_op (ty_var rfl) (ty_var rfl) (opt_ixT (atI_nat e))) tya_nil))))) rfl
      · simp
    | _ => exact tys_guard (φ := (· = false)) (by tm_at "ttis") (fun z => Bool.noConfusion z) fun _ => tys_guard (φ := (· = false)) (by tm_at "ttis") (fun z => Bool.noConfusion z) fun _ => TyS.never (tys_retW (ty_call _ (by first | exact trivial | exact (show smOk 8 (.str _) from hC)) (tya_cons (ty_var rfl) (tya_cons (ty_var rfl) tya_nil))))
theorem ok_law_still (T : Tx P K mg) : FnOk P w K mg base (L2.CX P w) 12 T.a_law_still T.f_law_still ["told", "due"] (sp_law_still K) := okr_law_still T 4
end
section
variable {P : Program} {w : World} {K : PySem.W.Frag} {mg : Str → Option Value} {base : Heap}
/-- what a call tells -/
inductive CallOk : Str → List PyData → Str → PyData → Prop
  | j (d : PyData) (l : List RP) (h : restC d l) (h1 : areRestsD d = true) : CallOk "joined" [d] "told" (optD (joinI l))
  | j1 (d : PyData) (h1 : areRestsD d = false) : CallOk "joined" [d] "rests" d
  | c (d : PyData) (l : List RP) (h : restC d l) (h1 : areRestsD d = true) : CallOk "clash" [d] "told" (clashD (clashI l))
  | c1 (d : PyData) (h1 : areRestsD d = false) : CallOk "clash" [d] "rests" d
  | n (d e : PyData) (l : List RP) (b : Int) (h : nwC (d, e, l, b)) (h1 : areRestsD d = true) (h2 : boundOk e = true) (h3 : ¬ 1000 < manyO l b) : CallOk "numbers" [d, e] "told" (linD (numsO l b))
  | n1 (d e : PyData) (h : boundOk e = false) (h1 : areRestsD d = false) : CallOk "numbers" [d, e] "rests" d
  | n2 (d e : PyData) (l : List RP) (h : restC d l) (h1 : areRestsD d = true) (h2 : boundOk e = false) : CallOk "numbers" [d, e] "bound" e
  | n3 (d e : PyData) (l : List RP) (b : Int) (h : nwC (d, e, l, b)) (h1 : areRestsD d = true) (h2 : boundOk e = true) (h3 : 1000 < manyO l b) : CallOk "numbers" [d, e] "many" (.int (manyO l b))
structure CallX where
  which : Str
  a : List PyData
  nm : Bool
  tag : Str
  val : PyData
def sp_law_call (K : PySem.W.Frag) : Sp := spR (fun x : CallX => CallOk x.which x.a x.tag x.val) (fun x => [dt K (.str x.which), dt K (.list x.a), dt K (.bool x.nm)]) (fun x => rTold K x.tag x.val (x.which = "numbers" ∧ x.tag = "told"))
section
variable {W : Wd} {Γ : Gam} {K : PySem.W.Frag} {te tb : TE} {P : Hp → V → Hp → Prop} {tag t : Str} {val : PyData} {fr : Prop} {Bk Ct : Sx → Hp → Prop} {Wx : WX}
theorem tyr_toldG (h : TyR W Γ te P) (k : ∀ H0 v H, Cxt W H0 → P H0 v H → tag = t ∧ Rp W.M K H v val ∧ (fr → ∃ p o, v = .ref p ∧ H0 p = none ∧ H p = some o)) : TyR W Γ (tLst (tCons (tC (.str t)) (tCons te tNil))) ((rTold K tag val fr).p W.M W.B) := fun σ H c g Q q =>
  h σ H c g _ fun v H0 H1 e0 e1 z => by
    obtain ⟨rfl, k1, k2⟩ := k H0 v H1 (c.up e0) z
    refine ⟨by show 2 ≤ sizeLine; exact sz_le (by decide), fun p hp => q _ H0 _ e0 (e1.trans (Ex.new hp)) ⟨p, v, rfl, e1.free hp, upd_same, Rp.up (Ex.new (B := W.B) hp).toW k1, fun f => ?_⟩⟩
    obtain ⟨a, o, rfl, k3, k4⟩ := k2 f
    exact ⟨a, rfl, k3, ne_of_none k4 hp⟩
theorem tys_both {α : Type} {C : α → Prop} {A : α → List Typ} {R : α → Res} {bad : α → Option Bad} {tt : TT} {ta tk : TA} {gV : List V → List V} {Us : List Typ} {b : Bool} (x : α) (hC : C x) (hn : Tt W Γ tt (· = b)) (ha : TyA W Γ ta (A x)) (hk : TyA W Γ tk Us) (hg : ∀ {vs H}, TysV W.M W.B Us vs H → TysV W.M W.B (A x) (gV vs) H)
    (hb : ∀ b, bad x = some b → ErX W Γ Wx b) (k : ∀ H0 v H, Cxt W H0 → bad x = none → (R x).p W.M W.B H0 v H → tag = t ∧ Rp W.M K H v val ∧ (fr → ∃ p o, v = .ref p ∧ H0 p = none ∧ H p = some o)) :
    TyS W Γ (tRet (tLst (tCons (tC (.str t)) (tCons (tIf tt (tCallS (spX C A R bad) (WE Wx) ta) (tCallKS (spX C A R bad) gV (WE Wx) tk)) tNil)))) noN (rX W True (rTold K tag val fr)) Bk Ct :=
  tys_retX True.intro (tyr_toldG (tyr_if hn (fun _ => tyr_callX x hC ha hb) fun _ => tyr_callKX x hC hk hg hb) fun H0 v H c z => k H0 v H c z.1 z.2)
end
theorem bfalse {b : Bool} (h : b = false) : ¬ b = true := by rw [h]; exact Bool.false_ne_true
theorem ok_law_call (T : Tx P K mg) : FnOk P w K mg base (L2.CX P w) 8 T.a_law_call T.f_law_call ["which", "a", "named"] (sp_law_call K) := by
  have G_numbers_with := ok_numbers_with (w := w) (base := base) T
  have G_joined := ok_joined (w := w) (base := base) T
  have G_clash := ok_clash (w := w) (base := base) T
  have nd := sc_law_call.nd
  refine fn_tyR T.F_law_call sc_law_call (fun x _ => rfl) fun cdv Ar outer s H E hr => ⟨_, (pss_one (k_try (K := K) rfl rfl rfl nd takes0 (fun _ pn xe tk _ => (pss_cons (ps_if (pt_cmpR (k_eq (K := K) rfl hr.units) (pv 0) pe_str (nomark _)) (pss_one (ps_ret (pe_lst (pa_cons pe_str (pa_cons (pe_ifExp (pt_val (pv 2)) (pe_callS G_joined (hr.mono (by decide)) rfl T.D_joined.g T.D_joined.k T.D_joined.b (fun σ => passAt tk σ) (pa_cons (pe_ix (k_ix (K := K) rfl) (pv 1) pe_int (fun _ _ => rfl)) pa_nil)) (pe_callKS G_joined (hr.mono (by decide)) rfl T.D_joined.g T.D_joined.k T.B_joined (fun σ => passAt tk σ) (pk_cons (pe_ix (k_ix (K := K) rfl) (pv 1) pe_int (fun _ _ => rfl)) pk_nil))) pa_nil))))) pss_nil)
    (pss_cons (ps_if (pt_cmpR (k_eq (K := K) rfl hr.units) (pv 0) pe_str (nomark _)) (pss_one (ps_ret (pe_lst (pa_cons pe_str (pa_cons (pe_ifExp (pt_val (pv 2)) (pe_callS G_clash (hr.mono (by decide)) rfl T.D_clash.g T.D_clash.k T.D_clash.b (fun σ => passAt tk σ) (pa_cons (pe_ix (k_ix (K := K) rfl) (pv 1) pe_int (fun _ _ => rfl)) pa_nil)) (pe_callKS G_clash (hr.mono (by decide)) rfl T.D_clash.g T.D_clash.k T.B_clash (fun σ => passAt tk σ) (pk_cons (pe_ix (k_ix (K := K) rfl) (pv 1) pe_int (fun _ _ => rfl)) pk_nil))) pa_nil))))) pss_nil)
    (pss_one (ps_ret (pe_lst (pa_cons pe_str (pa_cons (pe_ifExp (pt_val (pv 2)) (pe_callS G_numbers_with (hr.mono (by decide)) rfl T.D_numbers_with.g T.D_numbers_with.k T.D_numbers_with.b (fun σ => passAt tk σ) (pa_cons (pe_ix (k_ix (K := K) rfl) (pv 1) pe_int (fun _ _ => rfl)) (pa_cons (pe_ix (k_ix (K := K) rfl) (pv 1) pe_int (fun _ _ => rfl)) pa_nil))) (pe_callKS G_numbers_with (hr.mono (by decide)) rfl T.D_numbers_with.g T.D_numbers_with.k T.B_numbers_with (fun σ => passAt tk σ) (pk_cons (pe_ix (k_ix (K := K) rfl) (pv 1) pe_int (fun _ _ => rfl)) (pk_cons (pe_ix (k_ix (K := K) rfl) (pv 1) pe_int (fun _ _ => rfl)) pk_nil)))) pa_nil)))))))) (HdsA.cons (i := 3) rfl rfl ⟨rfl, by decide, .inl T.c_InvalidRests.gC⟩ (fun a oe cls d pn hz hf => (pss_one (ps_ret (pe_lst (pa_cons pe_str (pa_cons (pe_xf T.x_InvalidRests T.c_InvalidRests.noN hz hf (pv 3)) pa_nil)))))) (HdsA.cons (i := 3) rfl rfl ⟨rfl, by decide, .inl T.c_InvalidBound.gC⟩ (fun a oe cls d pn hz hf => (pss_one (ps_ret (pe_lst (pa_cons pe_str (pa_cons (pe_xf T.x_InvalidBound T.c_InvalidBound.noN hz hf (pv 3)) pa_nil)))))) (HdsA.cons (i := 3) rfl rfl ⟨rfl, by decide, .inl T.c_TooMany.gC⟩ (fun a oe cls d pn hz hf => (pss_one (ps_ret (pe_lst (pa_cons pe_str (pa_cons (pe_xf T.x_TooMany T.o_TooMany.noN hz hf (pv 3)) pa_nil)))))) HdsA.nil))))), fun W x hC => ?_⟩
  obtain ⟨which, a, nm, tag, val⟩ := x
  dsimp only at hC ⊢
  refine TyS.never (tys_try (Er := fun c d σ H => nE W [some (dt K (.str which)), some (dt K (.list a)), some (dt K (.bool nm)), none] σ H ∧ ∃ dd, d = some dd ∧ ((c = .ref T.a_InvalidRests ∧ tag = "rests" ∧ HeldF W flG (dt K val) dd H) ∨ (c = .ref T.a_InvalidBound ∧ tag = "bound" ∧ HeldF W flG (dt K val) dd H) ∨ (c = .ref T.a_TooMany ∧ tag = "many" ∧ HeldF W flC (dt K val) dd H))) (fun Wx hW => ?_) fun D dr c d σ H e => ?_)
  · have erR : tag = "rests" → ErX W [some (dt K (.str which)), some (dt K (.list a)), some (dt K (.bool nm)), none] Wx ⟨T.a_InvalidRests, flG, dt K val⟩ := fun q dd σ H n hl => hW _ _ _ _ ⟨n, dd, rfl, .inl ⟨rfl, q, hl⟩⟩
    have erB : tag = "bound" → ErX W [some (dt K (.str which)), some (dt K (.list a)), some (dt K (.bool nm)), none] Wx ⟨T.a_InvalidBound, flG, dt K val⟩ := fun q dd σ H n hl => hW _ _ _ _ ⟨n, dd, rfl, .inr (.inl ⟨rfl, q, hl⟩)⟩
    have erM : tag = "many" → ErX W [some (dt K (.str which)), some (dt K (.list a)), some (dt K (.bool nm)), none] Wx ⟨T.a_TooMany, flC, dt K val⟩ := fun q dd σ H n hl => hW _ _ _ _ ⟨n, dd, rfl, .inr (.inr ⟨rfl, q, hl⟩)⟩
    have no : ∀ {x : Str}, which ≠ x → Tt W [some (dt K (.str which)), some (dt K (.list a)), some (dt K (.bool nm)), none] (tTest (tOp (rEqA K) (tVar 0) (tC (.str x)))) (· = false) := fun {x} h => Tt.is (tt_test (ty_op (ty_var rfl) ty_str opt_eqS)) (decide_eq_false h)
    have yes : ∀ {x : Str}, which = x → Tt W [some (dt K (.str which)), some (dt K (.list a)), some (dt K (.bool nm)), none] (tTest (tOp (rEqA K) (tVar 0) (tC (.str x)))) (· = true) := fun {x} h => Tt.is (tt_test (ty_op (ty_var rfl) ty_str opt_eqS)) (decide_eq_true h)
    have nam : Tt W [some (dt K (.str which)), some (dt K (.list a)), some (dt K (.bool nm)), none] (tB (tVar 2)) (· = nm) := tt_B (ty_var rfl)
    have ix2 : ∀ d e, a = [d, e] → TyA W [some (dt K (.str which)), some (dt K (.list a)), some (dt K (.bool nm)), none] (tCons (tOp (rIx K) (tVar 1) (tC (.int 0))) (tCons (tOp (rIx K) (tVar 1) (tC (.int 1))) tNil)) [dt K d, dt K e] ∧
        TyA W [some (dt K (.str which)), some (dt K (.list a)), some (dt K (.bool nm)), none] (tCons (tOp (rIx K) (tVar 1) (tC (.int 1))) (tCons (tOp (rIx K) (tVar 1) (tC (.int 0))) tNil)) [dt K e, dt K d] := fun d e q => by
      subst q
      have z0 : Ty W [some (dt K (.str which)), some (dt K (.list [d, e])), some (dt K (.bool nm)), none] (tOp (rIx K) (tVar 1) (tC (.int 0))) (dt K d) := ty_op (ty_var rfl) ty_int (opt_ixL (i := 0) (atI_nat (j := 0) rfl))
      have z1 : Ty W [some (dt K (.str which)), some (dt K (.list [d, e])), some (dt K (.bool nm)), none] (tOp (rIx K) (tVar 1) (tC (.int 1))) (dt K e) := ty_op (ty_var rfl) ty_int (opt_ixL (i := 1) (atI_nat (j := 1) rfl))
      exact ⟨tya_cons z0 (tya_cons z1 tya_nil), tya_cons z1 (tya_cons z0 tya_nil)⟩
    have ix1 : ∀ d, a = [d] → TyA W [some (dt K (.str which)), some (dt K (.list a)), some (dt K (.bool nm)), none] (tCons (tOp (rIx K) (tVar 1) (tC (.int 0))) tNil) [dt K d] := fun d q => by
      subst q
      exact tya_cons (ty_op (ty_var rfl) ty_int (opt_ixL (i := 0) (atI_nat (j := 0) rfl))) tya_nil
    cases hC with
    | j d l h h1 =>
      have ha := ix1 _ rfl
      exact tys_guard (φ := (· = true)) (yes rfl) (fun _ => tys_both (d, l) h nam ha ha tysv_id (fun b hb => by dsimp only at hb; rw [if_pos h1] at hb; cases hb) fun H0 v H c _ z => ⟨rfl, z, fun f => absurd f.1 (by decide)⟩) (fun z => Bool.noConfusion z)
    | j1 d h1 =>
      have ha := ix1 val rfl
      exact tys_guard (φ := (· = true)) (yes rfl) (fun _ => tys_both (val, []) (fun q => absurd q (bfalse h1)) nam ha ha tysv_id (fun b hb => by dsimp only at hb; rw [if_neg (bfalse h1)] at hb; cases hb; exact erR rfl) fun H0 v H c z _ => by dsimp only at z; rw [if_neg (bfalse h1)] at z; cases z) (fun z => Bool.noConfusion z)
    | c d l h h1 =>
      have ha := ix1 _ rfl
      exact tys_guard (φ := (· = false)) (no (by decide)) (fun z => Bool.noConfusion z) fun _ => tys_guard (φ := (· = true)) (yes rfl) (fun _ => tys_both (d, l) h nam ha ha tysv_id (fun b hb => by dsimp only at hb; rw [if_pos h1] at hb; cases hb) fun H0 v H c _ z => ⟨rfl, z, fun f => absurd f.1 (by decide)⟩) (fun z => Bool.noConfusion z)
    | c1 d h1 =>
      have ha := ix1 _ rfl
      exact tys_guard (φ := (· = false)) (no (by decide)) (fun z => Bool.noConfusion z) fun _ => tys_guard (φ := (· = true)) (yes rfl) (fun _ => tys_both (val, []) (fun q => absurd q (bfalse h1)) nam ha ha tysv_id (fun b hb => by dsimp only at hb; rw [if_neg (bfalse h1)] at hb; cases hb; exact erR rfl) fun H0 v H c z _ => by dsimp only at z; rw [if_neg (bfalse h1)] at z; cases z) (fun z => Bool.noConfusion z)
    | n d e l b h h1 h2 h3 =>
      have ha := ix2 _ _ rfl
      exact tys_guard (φ := (· = false)) (no (by decide)) (fun z => Bool.noConfusion z) fun _ => tys_guard (φ := (· = false)) (no (by decide)) (fun z => Bool.noConfusion z) fun _ => tys_both (d, e, l, b) h nam ha.1 ha.2 tysv_rev2 (fun b hb => by dsimp only at hb; rw [if_pos h1, if_pos h2, if_neg h3] at hb; cases hb) fun H0 v H c _ z => by
        obtain ⟨p, xs, rfl, k1, k2, k3⟩ := z
        exact ⟨rfl, .lst k2 (c.nm k1) (TysV.data (B := W.B) (by rw [List.map_map]; exact k3)), fun _ => ⟨p, _, rfl, k1, k2⟩⟩
    | n1 d e h h1 =>
      have ha := ix2 _ _ rfl
      exact tys_guard (φ := (· = false)) (no (by decide)) (fun z => Bool.noConfusion z) fun _ => tys_guard (φ := (· = false)) (no (by decide)) (fun z => Bool.noConfusion z) fun _ => tys_both (val, e, [], 0) ⟨fun q => absurd q (bfalse h1), fun q => absurd q (bfalse h)⟩ nam ha.1 ha.2 tysv_rev2 (fun b hb => by dsimp only at hb; rw [if_neg (bfalse h1)] at hb; cases hb; exact erR rfl) fun H0 v H c z _ => by dsimp only at z; rw [if_neg (bfalse h1)] at z; cases z
    | n2 d e l h h1 h2 =>
      have ha := ix2 _ _ rfl
      exact tys_guard (φ := (· = false)) (no (by decide)) (fun z => Bool.noConfusion z) fun _ => tys_guard (φ := (· = false)) (no (by decide)) (fun z => Bool.noConfusion z) fun _ => tys_both (d, val, l, 0) ⟨h, fun q => absurd q (bfalse h2)⟩ nam ha.1 ha.2 tysv_rev2 (fun b hb => by dsimp only at hb; rw [if_pos h1, if_neg (bfalse h2)] at hb; cases hb; exact erB rfl) fun H0 v H c z _ => by dsimp only at z; rw [if_pos h1, if_neg (bfalse h2)] at z; cases z
    | n3 d e l b h h1 h2 h3 =>
      have ha := ix2 _ _ rfl
      exact tys_guard (φ := (· = false)) (no (by decide)) (fun z => Bool.noConfusion z) fun _ => tys_guard (φ := (· = false)) (no (by decide)) (fun z => Bool.noConfusion z) fun _ => tys_both (d, e, l, b) h nam ha.1 ha.2 tysv_rev2 (fun b hb => by dsimp only at hb; rw [if_pos h1, if_pos h2, if_pos h3] at hb; cases hb; exact erM rfl) fun H0 v H c z _ => by dsimp only at z; rw [if_pos h1, if_pos h2, if_pos h3] at z; cases z
  · obtain ⟨n, dd, rfl, e⟩ := e
    rcases e with ⟨rfl, rfl, hl⟩ | ⟨rfl, rfl, hl⟩ | ⟨rfl, rfl, hl⟩
    · exact hdl_hitX T.e_InvalidRests_InvalidRests n hl dr fun _ => tys_retX True.intro (tyr_toldG (Ty.tyr (ty_field flG_given rfl rfl (ty_var rfl))) fun H0 v H c z => ⟨rfl, z, fun f => absurd f.2 (by decide)⟩)
    · exact hdl_miss T.e_InvalidBound_InvalidRests (hdl_hitX T.e_InvalidBound_InvalidBound n hl dr fun _ => tys_retX True.intro (tyr_toldG (Ty.tyr (ty_field flG_given rfl rfl (ty_var rfl))) fun H0 v H c z => ⟨rfl, z, fun f => absurd f.2 (by decide)⟩))
    · exact hdl_miss T.e_TooMany_InvalidRests (hdl_miss T.e_TooMany_InvalidBound (hdl_hitX T.e_TooMany_TooMany n hl dr fun _ => tys_retX True.intro (tyr_toldG (Ty.tyr (ty_field flC_count rfl rfl (ty_var rfl))) fun H0 v H c z => ⟨rfl, z, fun f => absurd f.2 (by decide)⟩)))
end
section
variable {P : Program} {w : World} {K : PySem.W.Frag} {mg : Str → Option Value} {base : Heap}
structure Bad1 (d : PyData) : Prop where
  s : stOk 4 d
  n : areRestsD d = false
structure Bad2 (d : PyData) : Prop where
  s : stOk 4 d
  n : boundOk d = false
def badT (K : PySem.W.Frag) (φ : PyData → Prop) : Typ := exT fun d : PyData => gd (φ d) (dt K d)
def rowD (r : Str × List PyData × Str × PyData) : PyData := .list [.str r.1, .list r.2.1, .list [.str r.2.2.1, r.2.2.2]]
def rowsL (l : List RP) (bad bound : PyData) : List (Str × List PyData × Str × PyData) :=
  [("joined", [bad], "rests", bad), ("clash", [bad], "rests", bad), ("numbers", [bad, bound], "rests", bad), ("numbers", [restsD false l, bound], "bound", bound)]
theorem itemOk_pair {p : RP} (h : 0 < p.2) : itemOk (pairD p) = true := decide_eq_true (by omega)
theorem areRests_ok {b : Bool} {l : List RP} (C : RestsOk l) : areRestsD (restsD b l) = true := by
  unfold restsD
  rw [areRests_seq, List.length_map, decide_eq_true C.n, Bool.true_and]
  refine List.all_eq_true.mpr fun x hx => ?_
  obtain ⟨p, hp, rfl⟩ := List.mem_map.mp hx
  exact itemOk_pair (C.pos p hp)
theorem restC_ok {b : Bool} {l : List RP} (C : RestsOk l) : restC (restsD b l) l := fun _ => ⟨⟨b, rfl⟩, C⟩
theorem rows_ok {l : List RP} {bad bound : PyData} (C : RestsOk l) (h1 : Bad1 bad) (h2 : Bad2 bound) : ∀ r ∈ rowsL l bad bound, CallOk r.1 r.2.1 r.2.2.1 r.2.2.2 ∧ stOk 4 r.2.2.2 := by
  intro r hr
  simp only [rowsL, List.mem_cons, List.not_mem_nil, or_false] at hr
  rcases hr with rfl | rfl | rfl | rfl
  · exact ⟨.j1 bad h1.n, h1.s⟩
  · exact ⟨.c1 bad h1.n, h1.s⟩
  · exact ⟨.n1 bad bound h2.n h1.n, h1.s⟩
  · exact ⟨.n2 (restsD false l) bound l (restC_ok C) (areRests_ok C) h2.n, h2.s⟩
section
variable {W : Wd} {Γ : Gam} {K : PySem.W.Frag} {te : TE} {tl : TA}
theorem ty_bad {d : PyData} {φ : PyData → Prop} (h : Ty W Γ te (dt K d)) (hd : φ d) : Ty W Γ te (badT K φ) := h.sub fun v H _ z => ⟨d, hd, z⟩
theorem ty_row {which tag : Str} {args : List PyData} {g : PyData} (hz : args.length ≤ 1000) (ha : TyA W Γ tl (args.map (dt K))) (hg : Ty W Γ te (dt K g)) :
    Ty W Γ (tLst (tCons (tC (.str which)) (tCons (tLst tl) (tCons (tLst (tCons (tC (.str tag)) (tCons te tNil))) tNil)))) (dt K (rowD (which, args, tag, g))) :=
  ty_lstD (ds := [.str which, .list args, .list [.str tag, g]]) (tya_cons ty_str (tya_cons (ty_lstD ha (by omega)) (tya_cons (ty_lstD (ds := [.str tag, g]) (tya_cons ty_str (tya_cons hg tya_nil)) (by show 2 ≤ 1000000; decide)) tya_nil))) (by show 3 ≤ 1000000; decide)
theorem ty_oneL {d : PyData} (h : Ty W Γ te (dt K d)) : Ty W Γ (tLst (tCons te tNil)) (dt K (.list [d])) := ty_lstD (ds := [d]) (tya_cons h tya_nil) (by show 1 ≤ 1000000; decide)
theorem ty_one {d : PyData} (h : Ty W Γ te (dt K d)) : Ty W Γ (tTup (tCons te tNil)) (dt K (.tuple [d])) := ty_tupD (ds := [d]) (tya_cons h tya_nil) (by show 1 ≤ 1000000; decide)
theorem ty_two {tb : TE} {d e : PyData} (h : Ty W Γ te (dt K d)) (k : Ty W Γ tb (dt K e)) : Ty W Γ (tTup (tCons te (tCons tb tNil))) (dt K (.tuple [d, e])) := ty_tupD (ds := [d, e]) (tya_cons h (tya_cons k tya_nil)) (by show 2 ≤ 1000000; decide)
theorem ty_badList {φ : PyData → Prop} {n : Nat} {tb : TE} (h : TyA W Γ tl (List.replicate n (badT K φ))) (hb : Ty W Γ tb (digT K n)) (hn : n ≤ 1000) : Ty W Γ (tOp (rIx K) (tLst tl) tb) (badT K φ) :=
  any_sub (Ts := List.replicate n (badT K φ)) (ty_pick (n := n) (tyl_lst h (by rw [List.length_replicate]; omega)).ty hb (by rw [List.length_replicate]; exact Nat.le_refl _)) fun k hk v H z => by rw [rep_getD (by simpa using hk)] at z; exact z
theorem ty_told {x : CallX} {tl : TA} {E : XK} (hC : CallOk x.which x.a x.tag x.val) (h : TyA W Γ tl [dt K (.str x.which), dt K (.list x.a), dt K (.bool x.nm)]) : Ty W Γ (tCall (sp_law_call K) [] E tl) (dt K (.list [.str x.tag, x.val])) :=
  (tyr_callR x hC h).ty fun H0 v H c _ z => Res.tdata c z
end
def sp_law_refused_right (K : PySem.W.Frag) : Sp := spT (fun x : List RP × Bool => RestsOk x.1) (fun x => [bx, dt K (restsD false x.1), dt K (.bool x.2)]) (fun _ => dt K (.bool true))
theorem ok_law_refused_right (T : Tx P K mg) : FnOk P w K mg base (L2.CX P w) 13 T.a_law_refused_right T.f_law_refused_right ["box", "rests", "named"] (sp_law_refused_right K) := by
  have G_law_take := ok_law_take (w := w) (base := base) T
  have G_law_call := ok_law_call (w := w) (base := base) T
  have G_law_still := ok_law_still (w := w) (base := base) T
  have nd := sc_law_refused_right.nd
  refine fn_ty T.F_law_refused_right sc_law_refused_right (fun x _ => rfl) fun cdv Ar outer s H E hr => ⟨_, (pss_cons (pset 3 nd (pe_ix (k_ix (K := K) rfl) (pe_lst (pa_cons pe_non (pa_cons pe_int (pa_cons pe_str (pa_cons (pe_lst (pa_cons pe_int (pa_cons pe_int pa_nil))) (pa_cons (pe_lst (pa_cons (pe_tup (pa_cons pe_int (pa_cons pe_int pa_nil))) pa_nil)) (pa_cons (pe_lst (pa_cons (pe_tup (pa_cons pe_int (pa_cons (pe_un un_neg pe_int) pa_nil))) pa_nil)) (pa_cons (pe_lst (pa_cons (pe_tup (pa_cons pe_bl (pa_cons pe_int pa_nil))) pa_nil)) (pa_cons (pe_lst (pa_cons (pe_tup (pa_cons pe_int (pa_cons pe_bl pa_nil))) pa_nil)) (pa_cons (pe_lst (pa_cons (pe_lst (pa_cons pe_int (pa_cons pe_int pa_nil))) pa_nil)) (pa_cons (pe_lst (pa_cons (pe_tup (pa_cons pe_int (pa_cons pe_int (pa_cons pe_int pa_nil)))) pa_nil)) (pa_cons (pe_lst (pa_cons (pe_tup (pa_cons pe_int pa_nil)) pa_nil)) (pa_cons (pe_op op_rep (pe_lst (pa_cons (pe_tup (pa_cons pe_int (pa_cons pe_int pa_nil))) pa_nil)) pe_int) (pa_cons (pe_disp (pps_cons pe_str pe_int pps_nil) rfl rfl (fun z => by cases z) (by decide)) (pa_cons (pe_lst (pa_cons (pe_tup (pa_cons pe_int (pa_cons pe_str pa_nil))) pa_nil)) (pa_cons (pe_lst (pa_cons pe_non pa_nil)) pa_nil)))))))))))))))) (pcall G_law_take (hr.mono (by decide)) T.D_law_take (pa_cons (pv 0) (pa_cons pe_int pa_nil))) (fun _ _ => rfl)))
    (pss_cons (pset 4 nd (pe_ix (k_ix (K := K) rfl) (pe_lst (pa_cons pe_non (pa_cons (pe_un un_neg pe_int) (pa_cons pe_bl (pa_cons pe_str (pa_cons (pe_tup (pa_cons pe_int pa_nil)) (pa_cons (pe_lst (pa_cons pe_int pa_nil)) pa_nil))))))) (pcall G_law_take (hr.mono (by decide)) T.D_law_take (pa_cons (pv 0) (pa_cons pe_int pa_nil))) (fun _ _ => rfl)))
    (pss_cons (pset 5 nd (pe_lst (pa_cons (pe_lst (pa_cons pe_str (pa_cons (pe_lst (pa_cons (pv 3) pa_nil)) (pa_cons (pe_lst (pa_cons pe_str (pa_cons (pv 3) pa_nil))) pa_nil)))) (pa_cons (pe_lst (pa_cons pe_str (pa_cons (pe_lst (pa_cons (pv 3) pa_nil)) (pa_cons (pe_lst (pa_cons pe_str (pa_cons (pv 3) pa_nil))) pa_nil)))) (pa_cons (pe_lst (pa_cons pe_str (pa_cons (pe_lst (pa_cons (pv 3) (pa_cons (pv 4) pa_nil))) (pa_cons (pe_lst (pa_cons pe_str (pa_cons (pv 3) pa_nil))) pa_nil)))) (pa_cons (pe_lst (pa_cons pe_str (pa_cons (pe_lst (pa_cons (pv 1) (pa_cons (pv 4) pa_nil))) (pa_cons (pe_lst (pa_cons pe_str (pa_cons (pv 4) pa_nil))) pa_nil)))) pa_nil))))))
    (pss_cons (ps_for PassesOwn.never rfl (k_ilist (K := K) rfl (pv 5)) (k_gunl (K := K) (n := 3) rfl (pgs_cons (pgn 6 nd) (pgs_cons (pgn 7 nd) (pgs_cons (pgn 8 nd) pgs_nil)))) (pss_cons (pset 9 nd (pcall G_law_call (hr.mono (by decide)) T.D_law_call (pa_cons (pv 6) (pa_cons (pv 7) (pa_cons (pv 2) pa_nil)))))
    (pss_cons (ps_if (PW.pt (pw_or (pt_cmpR (k_ne (K := K) rfl hr.units) (pe_ix (k_ix (K := K) rfl) (pv 9) pe_int (fun _ _ => rfl)) (pe_ix (k_ix (K := K) rfl) (pv 8) pe_int (fun _ _ => rfl)) (nomark _)) (pw_or1 (pt_not (pt_val (pcall G_law_still (hr.mono (by decide)) T.D_law_still (pa_cons (pe_ix (k_ix (K := K) rfl) (pv 9) pe_int (fun _ _ => rfl)) (pa_cons (pe_ix (k_ix (K := K) rfl) (pv 8) pe_int (fun _ _ => rfl)) pa_nil)))))))) (pss_one (ps_ret pe_bl)) pss_nil)
    (pss_one (pset 2 nd (pe_not (pv 2)))))))
    (pss_one (ps_ret pe_bl)))))), fun W x hC => ?_⟩
  obtain ⟨l, b⟩ := x
  have C : RestsOk l := hC
  have dig : ∀ (W' : Wd) (Γ : Gam) (n : Nat) (te : TE), Γ[0]? = some (some bx) → 0 < n → n ≤ 1000000 → Ty W' Γ te (dt K (.int (n : Nat))) → Ty W' Γ (tCall (sp_law_take K) [] E0 (tCons (tVar 0) (tCons te tNil))) (digT K n) := fun W' Γ n te h h0 h1 h2 => ty_call n ⟨h0, h1⟩ (tya_cons (ty_var h) (tya_cons h2 tya_nil))
  show TyS W [some bx, some (dt K (restsD false l)), some (dt K (.bool b)), none, none, none, none, none, none, none] _ _ _ _ _
  refine tys_seqE (tys_set (T := badT K Bad1) (ty_badList (n := 15) (
    tya_cons (ty_bad ty_non ⟨trivial, rfl⟩) (
    tya_cons (ty_bad (ty_int (n := 7)) ⟨trivial, rfl⟩) (
    tya_cons (ty_bad (ty_str (x := "12")) ⟨by show _ ≤ 1000; decide, rfl⟩) (
    tya_cons (ty_bad (ty_lstD (ds := [.int 1, .int 2]) (by tm_at "tyad") (by show 2 ≤ 1000000; decide)) ⟨by simp [stOk], rfl⟩) (
    tya_cons (ty_bad (ty_oneL (ty_two (ty_int (n := 1)) (ty_int (n := 0)))) ⟨by simp [stOk], rfl⟩) (
    tya_cons (ty_bad (ty_oneL (ty_two (ty_int (n := 1)) (ty_un (ty_int (n := 2)) unt_neg))) ⟨by simp [stOk], rfl⟩) (
    tya_cons (ty_bad (ty_oneL (ty_two (ty_bl (b := true)) (ty_int (n := 2)))) ⟨by simp [stOk], rfl⟩) (
    tya_cons (ty_bad (ty_oneL (ty_two (ty_int (n := 1)) (ty_bl (b := true)))) ⟨by simp [stOk], rfl⟩) (
    tya_cons (ty_bad (ty_oneL (ty_lstD (ds := [.int 1, .int 2]) (by tm_at "tyad") (by show 2 ≤ 1000000; decide))) ⟨by simp [stOk], rfl⟩) (
    tya_cons (ty_bad (ty_oneL (ty_tupD (ds := [.int 1, .int 2, .int 3]) (by tm_at "tyad") (by show 3 ≤ 1000000; decide))) ⟨by simp [stOk], rfl⟩) (
    tya_cons (ty_bad (ty_oneL (ty_one (ty_int (n := 1)))) ⟨by simp [stOk], rfl⟩) (
    tya_cons (ty_bad (d := .list (List.replicate 41 (.tuple [.int 1, .int 2]))) (Ty.is (ty_op (ty_oneL (ty_two (ty_int (n := 1)) (ty_int (n := 2)))) (ty_int (n := 41)) (opt_repI (by decide) (by decide) (by show 1 ≤ 1000; decide))) (by show PyData.list (List.replicate 41 [_]).flatten = _; rw [List.flatten_replicate_singleton])) ⟨by simp [stOk], rfl⟩) (
    tya_cons (ty_bad (ty_disp1 ty_str ty_int) ⟨⟨by decide, _, _, rfl⟩, rfl⟩) (
    tya_cons (ty_bad (ty_oneL (ty_two (ty_int (n := 1)) (ty_str (x := "2")))) ⟨by simp [stOk]; decide, rfl⟩) (
    tya_cons (ty_bad (ty_oneL ty_non) ⟨by simp [stOk], rfl⟩) tya_nil))))))))))))))) (dig _ _ 15 _ rfl (by decide) (by decide) (Ty.is ty_int rfl)) (by decide))) ?_
  refine TyS.openX (n := 3) rfl fun bad => TyS.openG (n := 3) rfl fun hbad => ?_
  show TyS W [some bx, some (dt K (restsD false l)), some (dt K (.bool b)), some (dt K bad), none, none, none, none, none, none] _ _ _ _ _
  refine tys_seqE (tys_set (T := badT K Bad2) (ty_badList (n := 6) (
    tya_cons (ty_bad ty_non ⟨trivial, rfl⟩) (
    tya_cons (ty_bad (ty_un (ty_int (n := 1)) unt_neg) ⟨trivial, rfl⟩) (
    tya_cons (ty_bad (ty_bl (b := true)) ⟨trivial, rfl⟩) (
    tya_cons (ty_bad (ty_str (x := "3")) ⟨by show _ ≤ 1000; decide, rfl⟩) (
    tya_cons (ty_bad (ty_one (ty_int (n := 3))) ⟨by simp [stOk], rfl⟩) (
    tya_cons (ty_bad (ty_oneL (ty_int (n := 3))) ⟨by simp [stOk], rfl⟩) tya_nil)))))) (dig _ _ 6 _ rfl (by decide) (by decide) (Ty.is ty_int rfl)) (by decide))) ?_
  refine TyS.openX (n := 4) rfl fun bound => TyS.openG (n := 4) rfl fun hbound => ?_
  show TyS W [some bx, some (dt K (restsD false l)), some (dt K (.bool b)), some (dt K bad), some (dt K bound), none, none, none, none, none] _ _ _ _ _
  have rok := rows_ok C hbad hbound
  refine tys_seqE (tys_set (T := lstT ((rowsL l bad bound).map fun r => dt K (rowD r))) (tyl_lst (Ts := (rowsL l bad bound).map fun r => dt K (rowD r)) (tya_cons (ty_row (args := [bad]) (by show 1 ≤ 1000; decide) (tya_cons (ty_var rfl) tya_nil) (ty_var rfl)) (tya_cons (ty_row (args := [bad]) (by show 1 ≤ 1000; decide) (tya_cons (ty_var rfl) tya_nil) (ty_var rfl)) (tya_cons (ty_row (args := [bad, bound]) (by show 2 ≤ 1000; decide) (tya_cons (ty_var rfl) (tya_cons (ty_var rfl) tya_nil)) (ty_var rfl)) (tya_cons (ty_row (args := [restsD false l, bound]) (by show 2 ≤ 1000; decide) (tya_cons (ty_var rfl) (tya_cons (ty_var rfl) tya_nil)) (ty_var rfl)) tya_nil)))) (by show 4 ≤ 1000000; decide)).ty) ?_
  generalize rowsL l bad bound = rows at rok
  show TyS W [some bx, some (dt K (restsD false l)), some (dt K (.bool b)), some (dt K bad), some (dt K bound), some (lstT (rows.map fun r => dt K (rowD r))), none, none, none, none] _ _ _ _ _
  refine tys_seqE (W' := W) (Γ' := [some bx, none, none, none, none, none, none, none, none, none]) ?_ (TyS.never (tys_retW ty_bl))
  have hi : TyI W [some bx, some (dt K (restsD false l)), some (dt K (.bool b)), some (dt K bad), some (dt K bound), some (lstT (rows.map fun r => dt K (rowD r))), none, none, none, none] (iList K (tVar 5)) (rows.map fun r => dt K (rowD r)) := tyi_lst (ty_var rfl)
  refine tys_for (Wi := fun _ (_ : Bool) => W) (Γi := fun i (y : Bool) => [some bx, none, some (dt K (.bool y)), none, none, none, none, none, none, none]) b hi (fun _ _ => Wd.Like.refl W) (fun σ H g => ⟨g.1, EnvL.less (by exact ⟨fun _ _ _ _ h => h, fun _ _ _ _ h => h, True.intro⟩) g.2⟩) (fun i T' y hT => ?_) (fun y σ H g => ⟨g.1, EnvL.less (by exact ⟨fun _ _ _ _ h => h, True.intro⟩) g.2⟩)
  rw [List.getElem?_map] at hT
  cases hp : rows[i]? with
  | none => rw [hp] at hT; cases hT
  | some r =>
    rw [hp] at hT
    cases hT
    obtain ⟨hcall, hst⟩ := rok r (List.mem_of_getElem? hp)
    obtain ⟨which, args, tag, g⟩ := r
    refine ⟨_, (tyg_unl (Ts := [dt K (.str which), dt K (.list args), dt K (.list [.str tag, g])]) (tygs_cons (tyg_name 6) (tygs_cons (tyg_name 7) (tygs_cons (tyg_name 8) tygs_nil)))).sub fun v H z => data_lstT (ds := [.str which, .list args, .list [.str tag, g]]) z, ?_⟩
    show TyS W [some bx, none, some (dt K (.bool y)), none, none, none, some (dt K (.str which)), some (dt K (.list args)), some (dt K (.list [.str tag, g])), none] _ _ _ _ _
    refine tys_seqE (tys_set (ty_told (x := ⟨which, args, y, tag, g⟩) hcall (tya_cons (ty_var rfl) (tya_cons (ty_var rfl) (tya_cons (ty_var rfl) tya_nil))))) ?_
    refine tys_guard (φ := (· = false)) (tt_orB (a := false) (Tt.is (tt_test (ty_op (ty_op (ty_var rfl) ty_int (opt_ixL (i := 0) (d := .str tag) (ds := [.str tag, g]) (atI_nat (j := 0) rfl))) (ty_op (ty_var rfl) ty_int (opt_ixL (i := 0) (d := .str tag) (ds := [.str tag, g]) (atI_nat (j := 0) rfl))) opt_neS)) (by simp)) fun _ => Tt.is (tt_notB (tt_B (ty_call g hst (tya_cons (ty_op (ty_var rfl) ty_int (opt_ixL (i := 1) (d := g) (ds := [.str tag, g]) (atI_nat (j := 1) rfl))) (tya_cons (ty_op (ty_var rfl) ty_int (opt_ixL (i := 1) (d := g) (ds := [.str tag, g]) (atI_nat (j := 1) rfl))) tya_nil))))) rfl) (fun z => Bool.noConfusion z) fun _ => ?_
    refine TyS.imp (tys_set (ty_notV (ty_var rfl))) fun σ H q => ⟨!y, q.1, EnvL.less (by exact ⟨fun _ _ _ _ h => h, fun _ _ _ _ h => h, True.intro⟩) q.2⟩
end
section
variable {P : Program} {w : World} {K : PySem.W.Frag} {mg : Str → Option Value} {base : Heap}
theorem tyg_unD {W : Wd} {Γ : Gam} {K : PySem.W.Frag} {i j : Nat} {d e : PyData} : TyG W Γ (gUnl K 2 (gCons (gName i) (gCons (gName j) gNil))) (dt K (.list [d, e])) ((Γ.set i (some (dt K d))).set j (some (dt K e))) :=
  (tyg_unl (Ts := [dt K d, dt K e]) (tygs_cons (tyg_name i) (tygs_cons (tyg_name j) tygs_nil))).sub fun v H z => data_lstT (ds := [d, e]) z
theorem env_retype {M B : Addr → Prop} {Γ : Gam} {σ : Sx} {H : Hp} {n : Nat} {T U : Typ} (g : EnvL M B Γ σ H) (hn : Γ[n]? = some (some T)) (k : ∀ v, T.p M B v H → U.p M B v H) : EnvL M B (Γ.set n (some U)) σ H := by
  obtain ⟨v, h1, h2⟩ := g.get hn
  have z := EnvL.set (T := U) (i := n) (k v h2) g
  have e : σ.set n (some v) = σ := by
    apply List.ext_getElem?
    intro i
    by_cases hi : n = i
    · subst hi
      rw [List.getElem?_set_self (List.getElem?_eq_some_iff.mp h1).1, h1]
    · rw [List.getElem?_set_ne hi]
  rw [e] at z
  exact z
section
variable {W : Wd} {Γ : Gam} {K : PySem.W.Frag} {te : TE} {tt : TT} {l : List RP} {b : Bool}
theorem ty_listOf (h : Ty W Γ te (dt K (restsD b l))) : Ty W Γ (tCB (rLstOf K) (tCons te tNil)) (dt K (restsD false l)) := by
  cases b with
  | true => exact (tyl_cb (tya_cons (h.sub fun _ _ _ => data_tupT (ds := l.map pairD)) tya_nil) cbl_lstT).data
  | false => exact (tyl_cb (tya_cons (h.sub fun _ _ _ => data_lstT (ds := l.map pairD)) tya_nil) cbl_lstL).data
theorem ty_copy (hc : Tt W Γ tt (· = b)) (h : Ty W Γ te (dt K (restsD false l))) : Ty W Γ (tIf tt (tCB (rTupOf K) (tCons te tNil)) (tCB (rLstOf K) (tCons te tNil))) (dt K (restsD b l)) := by
  refine ty_if hc (fun z => ?_) fun z => ?_
  · subst z
    exact (ty_cb (tya_cons (h.sub fun _ _ _ => data_lstT (ds := l.map pairD)) tya_nil) cbt_tupL).sub fun _ _ _ => tupT_data (ds := l.map pairD)
  · subst z
    exact ty_listOf h
theorem tys_intsT {M M' B : Addr → Prop} {H : Hp} : ∀ {ns : List Int} {xs : List V}, RpA M K H xs (ns.map .int) → TysV M' B (numTs K ns) xs H
  | [], _, h => by cases h; exact True.intro
  | n :: ns, _, h => by
    cases h with
    | cons h1 h2 =>
      cases h1
      exact ⟨.int n, tys_intsT h2⟩
theorem data_intsT {M B : Addr → Prop} {H : Hp} {ns : List Int} {xs : List V} (h : TysV M B (numTs K ns) xs H) : RpA M K H xs (ns.map .int) := TysV.data (B := B) (by rw [List.map_map]; exact h)
end
theorem smOk_pair {n : Nat} {p : RP} : smOk (n + 2) (pairD p) := ⟨by show 2 ≤ 1000; decide, fun e he => by
  have he' : e = .int p.1 ∨ e = .int p.2 := by simpa using he
  rcases he' with rfl | rfl <;> exact trivial⟩
theorem smOk_rests {n : Nat} {b : Bool} {l : List RP} (h : l.length ≤ 40) : smOk (n + 3) (restsD b l) := by
  have z : (l.map pairD).length ≤ 1000 ∧ ∀ e ∈ l.map pairD, smOk (n + 2) e := ⟨by rw [List.length_map]; omega, fun e he => by obtain ⟨p, _, rfl⟩ := List.mem_map.mp he; exact smOk_pair⟩
  cases b <;> exact z
theorem smOk_opt {n : Nat} {o : Option RP} : smOk (n + 2) (optD o) := by
  cases o with
  | none => exact trivial
  | some p => exact smOk_pair
theorem smOk_clash {n : Nat} {o : Option (Nat × Nat)} : smOk (n + 2) (clashD o) := by
  cases o with
  | none => exact trivial
  | some p => exact ⟨by show 2 ≤ 1000; decide, fun e he => by
      have he' : e = .int (p.1 : Nat) ∨ e = .int (p.2 : Nat) := by simpa using he
      rcases he' with rfl | rfl <;> exact trivial⟩
theorem smOk_told {n : Nat} {tag : Str} {v : PyData} (h : smOk (n + 1) v) (ht : tag.length ≤ 1000) : smOk (n + 2) (.list [.str tag, v]) := ⟨by show 2 ≤ 1000; decide, fun e he => by
  have he' : e = .str tag ∨ e = v := by simpa using he
  rcases he' with rfl | rfl
  · exact ht
  · exact h⟩
theorem smOk_ints {n : Nat} {l : List Int} (h : l.length ≤ 1000) : smOk (n + 2) (linD l) := ⟨by rw [List.length_map]; exact h, fun e he => by
  obtain ⟨v, _, rfl⟩ := List.mem_map.mp he
  exact trivial⟩
/-- a bound as it stands here -/
def Bnd (b : Int) : Prop := 0 ≤ b ∧ b ≤ 10 ^ 30
theorem Bnd.sq {b : Int} (h : Bnd b) : sq b := by
  obtain ⟨h0, h1⟩ := h
  have z : bd 100 b := by show b.natAbs < 2 ^ 100; omega
  exact z.mono (by decide)
theorem nums_len {l : List RP} {b : Int} (h : ¬ 1000 < manyO l b) : (numsO l b).length ≤ 1000 := by
  unfold numsO manyO at *
  cases hj : joinI l with
  | none => exact Nat.zero_le _
  | some f =>
    rw [hj] at h
    have h' : ¬ 1000 < manyI f b := h
    show (numsI f b).length ≤ 1000
    unfold numsI
    rw [List.length_map, List.length_range]
    omega
theorem nums_is (l : List RP) (b : Int) : numsD (joinI l) b = if 1000 < manyO l b then .list [.str "many", .int (manyO l b)] else .list [.str "told", linD (numsO l b)] := by
  unfold numsO manyO
  cases hj : joinI l with
  | none => rfl
  | some f => rfl
theorem nin_ok {l : List RP} (C : RestsOk l) {b : Int} (hb : Bnd b) : ∀ f, joinI l = some f → Nin f b := fun f h => by
  obtain ⟨h1, h2, h3⟩ := join_ok C h
  exact ⟨h1, h2, h3, hb.1, hb.sq⟩
theorem nwC_ok {l : List RP} {x : Bool} (C : RestsOk l) {b : Int} (hb : Bnd b) : nwC (restsD x l, .int b, l, b) := ⟨restC_ok C, fun _ => ⟨rfl, hb.sq⟩⟩
theorem none_opt (o : Option RP) : isNoneD (optD o) = o.isNone := by cases o <;> rfl
theorem none_clash (o : Option (Nat × Nat)) : isNoneD (clashD o) = o.isNone := by cases o <;> rfl
def sp_law_scene_right (K : PySem.W.Frag) : Sp := spT (fun _ : Bool => True) (fun b => [bx, dt K (.bool b)]) (fun _ => dt K (.bool true))
theorem ok_law_scene_right (T : Tx P K mg) : FnOk P w K mg base (L2.CX P w) 14 T.a_law_scene_right T.f_law_scene_right ["box", "named"] (sp_law_scene_right K) := by
  have G_law_rests := ok_law_rests (w := w) (base := base) T
  have G_law_refused_right := ok_law_refused_right (w := w) (base := base) T
  have G_law_joined := ok_law_joined (w := w) (base := base) T
  have G_law_clash := ok_law_clash (w := w) (base := base) T
  have G_law_call := ok_law_call (w := w) (base := base) T
  have G_law_take := ok_law_take (w := w) (base := base) T
  have G_law_same := ok_law_same (w := w) (base := base) T
  have G_law_numbers := ok_law_numbers (w := w) (base := base) T
  have nd := sc_law_scene_right.nd
  refine fn_ty T.F_law_scene_right sc_law_scene_right (fun x _ => rfl) fun cdv Ar outer s H E hr => ⟨_, (pss_cons (ps_asg (pcall G_law_rests (hr.mono (by decide)) T.D_law_rests (pa_cons (pv 0) pa_nil)) (k_gunl (K := K) (n := 2) rfl (pgs_cons (pgn 2 nd) (pgs_cons (pgn 3 nd) pgs_nil))))
    (pss_cons (ps_asg (pe_tup (pa_cons (pcall G_law_joined (hr.mono (by decide)) T.D_law_joined (pa_cons (pv 2) pa_nil)) (pa_cons (pcall G_law_clash (hr.mono (by decide)) T.D_law_clash (pa_cons (pv 2) pa_nil)) pa_nil))) (k_gtup (K := K) (n := 2) rfl (pgs_cons (pgn 4 nd) (pgs_cons (pgn 5 nd) pgs_nil))))
    (pss_cons (pset 6 nd (pe_ifExp (pt_val (pv 1)) (k_tuple (K := K) rfl T.m_tuple (pa_cons (pv 2) pa_nil)) (k_list (K := K) rfl T.m_list (pa_cons (pv 2) pa_nil))))
    (pss_cons (pset 7 nd (pe_lst (pa_cons (pcall G_law_call (hr.mono (by decide)) T.D_law_call (pa_cons pe_str (pa_cons (pe_lst (pa_cons (pv 6) pa_nil)) (pa_cons (pv 1) pa_nil)))) (pa_cons (pcall G_law_call (hr.mono (by decide)) T.D_law_call (pa_cons pe_str (pa_cons (pe_lst (pa_cons (pv 6) pa_nil)) (pa_cons (pe_not (pv 1)) pa_nil)))) pa_nil))))
    (pss_cons (ps_if (PW.pt (pw_or (pt_not (pt_val (pcall G_law_same (hr.mono (by decide)) T.D_law_same (pa_cons (pv 7) (pa_cons (pe_lst (pa_cons (pe_lst (pa_cons pe_str (pa_cons (pv 4) pa_nil))) (pa_cons (pe_lst (pa_cons pe_str (pa_cons (pv 5) pa_nil))) pa_nil))) pa_nil))))) (pw_or1 (pt_cmpR (k_ne (K := K) rfl hr.units) (pe_cmpR op_isN (pv 4) pe_non (nomark _)) (pe_cmpR op_notN (pv 5) pe_non (nomark _)) (nomark _))))) (pss_one (ps_ret pe_bl)) pss_nil)
    (pss_cons (ps_if (PW.pt (pw_or (PW.pt (pw_and (pt_cmpR op_notN (pv 4) pe_non (nomark _)) (pw_and1 (pt_cmpR (k_ne (K := K) rfl hr.units) (plc [("item", 8)] nd (k_ilist (K := K) rfl (pv 2)) (fun _ _ _ _ _ => (pgn 8 nd)) (fun _ _ _ _ _ => (pts_one (pt_cmpR (k_ne (K := K) rfl hr.units) (pe_op op_mod (bi_int T.m_int (pa_cons (pe_op op_sub (pe_ix (k_ix (K := K) rfl) (pv 4) pe_int (fun _ _ => rfl)) (pe_ix (k_ix (K := K) rfl) (pv 8) pe_int (fun _ _ => rfl))) pa_nil)) (pe_ix (k_ix (K := K) rfl) (pv 8) pe_int (fun _ _ => rfl))) pe_int (nomark _)))) (fun _ _ _ _ _ => (pv 8)) (by kernel_rfl)) (pe_lst pa_nil) (nomark _))))) (pw_or1 (pt_not (pt_val (pcall G_law_same (hr.mono (by decide)) T.D_law_same (pa_cons (pv 6) (pa_cons (pe_ifExp (pt_val (pv 1)) (k_tuple (K := K) rfl T.m_tuple (pa_cons (pv 2) pa_nil)) (k_list (K := K) rfl T.m_list (pa_cons (pv 2) pa_nil))) pa_nil)))))))) (pss_one (ps_ret pe_bl)) pss_nil)
    (pss_cons (ps_for PassesOwn.never rfl (k_ilist (K := K) rfl (pe_lst (pa_cons (pcall G_law_take (hr.mono (by decide)) T.D_law_take (pa_cons (pv 0) (pa_cons pe_int pa_nil))) (pa_cons pe_int (pa_cons (pe_ix (k_ix (K := K) rfl) (pe_lst (pa_cons pe_int (pa_cons pe_int (pa_cons pe_int (pa_cons (pe_op op_pow pe_int pe_int) pa_nil))))) (pcall G_law_take (hr.mono (by decide)) T.D_law_take (pa_cons (pv 0) (pa_cons pe_int pa_nil))) (fun _ _ => rfl)) pa_nil))))) (pgn 9 nd) (pss_cons (pset 10 nd (pcall G_law_call (hr.mono (by decide)) T.D_law_call (pa_cons pe_str (pa_cons (pe_lst (pa_cons (pv 6) (pa_cons (pv 9) pa_nil))) (pa_cons (pv 1) pa_nil)))))
    (pss_cons (ps_if (pt_not (pt_val (pcall G_law_same (hr.mono (by decide)) T.D_law_same (pa_cons (pv 10) (pa_cons (pcall G_law_numbers (hr.mono (by decide)) T.D_law_numbers (pa_cons (pv 4) (pa_cons (pv 9) pa_nil))) pa_nil))))) (pss_one (ps_ret pe_bl)) pss_nil)
    (pss_cons (ps_if (pt_cmpR (k_eq (K := K) rfl hr.units) (pe_ix (k_ix (K := K) rfl) (pv 10) pe_int (fun _ _ => rfl)) pe_str (nomark _)) (pss_cons (ps_expr (k_append (K := K) rfl (pe_ix (k_ix (K := K) rfl) (pv 10) pe_int (fun _ _ => rfl)) (pa_cons pe_str pa_nil)))
    (pss_cons (pset 11 nd (pcall G_law_call (hr.mono (by decide)) T.D_law_call (pa_cons pe_str (pa_cons (pe_lst (pa_cons (k_list (K := K) rfl T.m_list (pa_cons (pv 6) pa_nil)) (pa_cons (pv 9) pa_nil))) (pa_cons (pe_not (pv 1)) pa_nil)))))
    (pss_one (ps_if (pt_not (pt_val (pcall G_law_same (hr.mono (by decide)) T.D_law_same (pa_cons (pv 11) (pa_cons (pcall G_law_numbers (hr.mono (by decide)) T.D_law_numbers (pa_cons (pv 4) (pa_cons (pv 9) pa_nil))) pa_nil))))) (pss_one (ps_ret pe_bl)) pss_nil)))) pss_nil)
    (pss_one (pset 1 nd (pe_not (pv 1))))))))
    (pss_one (ps_ret (pcall G_law_refused_right (hr.mono (by decide)) T.D_law_refused_right (pa_cons (pv 0) (pa_cons (k_list (K := K) rfl T.m_list (pa_cons (pv 2) pa_nil)) (pa_cons (pv 1) pa_nil))))))))))))), fun W x hC => ?_⟩
  have dig : ∀ (W' : Wd) (Γ : Gam) (n : Nat) (te : TE), Γ[0]? = some (some bx) → 0 < n → n ≤ 1000000 → Ty W' Γ te (dt K (.int (n : Nat))) → Ty W' Γ (tCall (sp_law_take K) [] E0 (tCons (tVar 0) (tCons te tNil))) (digT K n) := fun W' Γ n te h h0 h1 h2 => ty_call n ⟨h0, h1⟩ (tya_cons (ty_var h) (tya_cons h2 tya_nil))
  refine tys_seqX (W' := fun _ => W) (tys_asgX (φ := fun y : List RP × Int => RestsOk y.1) (A := fun y => dt K (.list [restsD false y.1, .int y.2])) (Γ' := fun y => [some bx, some (dt K (.bool x)), some (dt K (restsD false y.1)), some (dt K (.int y.2)), none, none, none, none, none, none, none, none]) (ty_call () trivial (tya_cons (ty_var rfl) tya_nil)) fun y => tyg_unD) fun y => ?_
  obtain ⟨⟨l, n⟩, C⟩ := y
  have C : RestsOk l := C
  dsimp only
  refine tys_seqE (tys_asg (ty_tup (K := K) (tya_cons (ty_call l C (tya_cons (ty_var rfl) tya_nil)) (tya_cons (ty_call l C (tya_cons (ty_var rfl) tya_nil)) tya_nil)) (by show 2 ≤ 1000000; decide)) tyg_pair) ?_
  show TyS W [some bx, some (dt K (.bool x)), some (dt K (restsD false l)), some (dt K (.int n)), some (dt K (optD (joinI l))), some (dt K (clashD (clashI l))), none, none, none, none, none, none] _ _ _ _ _
  refine tys_seqE (tys_set (ty_copy (b := x) (tt_B (ty_var rfl)) (ty_var rfl))) ?_
  show TyS W [some bx, some (dt K (.bool x)), some (dt K (restsD false l)), some (dt K (.int n)), some (dt K (optD (joinI l))), some (dt K (clashD (clashI l))), some (dt K (restsD x l)), none, none, none, none, none] _ _ _ _ _
  refine tys_seqE (tys_set (ty_lstD (ds := [.list [.str "told", optD (joinI l)], .list [.str "told", clashD (clashI l)]]) (tya_cons (ty_told (x := ⟨"joined", [restsD x l], x, "told", optD (joinI l)⟩) (.j _ l (restC_ok C) (areRests_ok C)) (tya_cons ty_str (tya_cons (ty_oneL (ty_var rfl)) (tya_cons (ty_var rfl) tya_nil)))) (tya_cons (ty_told (x := ⟨"clash", [restsD x l], !x, "told", clashD (clashI l)⟩) (.c _ l (restC_ok C) (areRests_ok C)) (tya_cons ty_str (tya_cons (ty_oneL (ty_var rfl)) (tya_cons (ty_notV (ty_var rfl)) tya_nil)))) tya_nil)) (by show 2 ≤ 1000000; decide))) ?_
  show TyS W [some bx, some (dt K (.bool x)), some (dt K (restsD false l)), some (dt K (.int n)), some (dt K (optD (joinI l))), some (dt K (clashD (clashI l))), some (dt K (restsD x l)), some (dt K (.list [.list [.str "told", optD (joinI l)], .list [.str "told", clashD (clashI l)]])), none, none, none, none] _ _ _ _ _
  have okG : smOk 8 (.list [.list [.str "told", optD (joinI l)], .list [.str "told", clashD (clashI l)]]) := ⟨by show 2 ≤ 1000; decide, fun e he => by
    have he' : e = .list [.str "told", optD (joinI l)] ∨ e = .list [.str "told", clashD (clashI l)] := by simpa using he
    rcases he' with rfl | rfl
    · exact smOk_told (n := 5) smOk_opt (by decide)
    · exact smOk_told (n := 5) smOk_clash (by decide)⟩
  refine tys_guard (φ := (· = false)) (tt_orB (a := false) (Tt.is (tt_notB (tt_B (ty_call (PyData.list [.list [.str "told", optD (joinI l)], .list [.str "told", clashD (clashI l)]]) okG (tya_cons (ty_var rfl) (tya_cons (ty_lstD (ds := [.list [.str "told", optD (joinI l)], .list [.str "told", clashD (clashI l)]]) (tya_cons (ty_lstD (ds := [.str "told", optD (joinI l)]) (tya_cons ty_str (tya_cons (ty_var rfl) tya_nil)) (by show 2 ≤ 1000000; decide)) (tya_cons (ty_lstD (ds := [.str "told", clashD (clashI l)]) (tya_cons ty_str (tya_cons (ty_var rfl) tya_nil)) (by show 2 ≤ 1000000; decide)) tya_nil)) (by show 2 ≤ 1000000; decide)) tya_nil))))) rfl) fun _ => Tt.is (tt_test (ty_op (ty_op (ty_var rfl) ty_non opt_isN) (ty_op (ty_var rfl) ty_non opt_notN) opt_neB)) ?_) (fun z => Bool.noConfusion z) fun _ => ?_
  · rw [none_opt, none_clash, join_clash C.pos]
    cases clashI l <;> rfl
  have t6 : Tt W [some bx, some (dt K (.bool x)), some (dt K (restsD false l)), some (dt K (.int n)), some (dt K (optD (joinI l))), some (dt K (clashD (clashI l))), some (dt K (restsD x l)), some (dt K (.list [.list [.str "told", optD (joinI l)], .list [.str "told", clashD (clashI l)]])), none, none, none, none] (tAnd (tTest (tOp (fun x y H Q => y = V.non ∧ Q (V.bl !decide (x = V.non)) H) (tVar 4) (tC V.non))) (tTest (tOp (rNeA K) (tLc (iList K (tVar 2)) (gName 8) (tTest (tOp (rNeA K) (tOp (rI (fun x j => 0 < j) fun i j => V.int (i % j)) (tCB rInt (tCons (tOp (rI0 fun i j => V.int (i - j)) (tOp (rIx K) (tVar 4) (tC (V.int 0))) (tOp (rIx K) (tVar 8) (tC (V.int 0)))) tNil)) (tOp (rIx K) (tVar 8) (tC (V.int 1)))) (tC (V.int 0)))) (tVar 8) [8]) (tLst tNil)))) (· = false) := by
    cases hj : joinI l with
    | none => exact tt_andF (Tt.is (tt_test (ty_op (ty_var rfl) ty_non opt_notN)) rfl)
    | some f =>
      have R := join_some rep_nil C.pos hj
      rw [List.nil_append] at R
      refine Tt.is (tt_andB (a := true) (b := false) (Tt.is (tt_test (ty_op (ty_var rfl) ty_non (opt_notN (d := pairD f)))) rfl) fun _ => Tt.is (tt_test (ty_op (Ty.is (ty_lstG (f := pairD) (xs := l.filter fun _ => false) (tyl_filter (fun p => dt K (pairD p)) (fun p => dt K (pairD p)) (fun _ => false) (tyi_lstA (xs := l) (f := pairD) (ty_var rfl)) (by have := C.n; omega) (by decide) fun W' p hp => ⟨?_, fun z => Bool.noConfusion z⟩)) (show _ = PyData.list [] by simp)) (ty_lstD (ds := []) tya_nil (by show 0 ≤ 1000000; decide)) (opt_neNilL (ds := []) rfl))) rfl) rfl
      refine Tt.is (tt_test (ty_op (ty_op (ty_cb (tya_cons (ty_op (ty_p1 (p := f) (ty_var rfl)) (ty_p1 (p := p) (ty_var rfl)) opt_sub) tya_nil) cbt_intI) (ty_p2 (p := p) (ty_var rfl)) (opt_mod (C.pos p hp))) ty_int opt_neI)) ?_
      rw [Int.emod_eq_zero_of_dvd (R.r p hp)]; rfl
  refine tys_guard (φ := (· = false)) (tt_orB (a := false) t6 fun _ => Tt.is (tt_notB (tt_B (ty_call (restsD x l) (smOk_rests (n := 5) C.n) (tya_cons (ty_var rfl) (tya_cons (ty_copy (b := x) (tt_B (ty_var rfl)) (ty_var rfl)) tya_nil))))) rfl) (fun z => Bool.noConfusion z) fun _ => ?_
  refine tys_seqX (α := Bool) (W' := fun _ => W) (Γ' := fun y => [some bx, some (dt K (.bool y)), some (dt K (restsD false l)), none, none, none, none, none, none, none, none, none]) ?_ fun y => TyS.never (tys_retW (ty_call (l, y) C (tya_cons (ty_var rfl) (tya_cons (ty_listOf (b := false) (ty_var rfl)) (tya_cons (ty_var rfl) tya_nil)))))
  have hi : TyI W [some bx, some (dt K (.bool x)), some (dt K (restsD false l)), some (dt K (.int n)), some (dt K (optD (joinI l))), some (dt K (clashD (clashI l))), some (dt K (restsD x l)), some (dt K (.list [.list [.str "told", optD (joinI l)], .list [.str "told", clashD (clashI l)]])), none, none, none, none] (iList K (tLst (tCons (tCall (sp_law_take K) [] E0 (tCons (tVar 0) (tCons (tC (V.int 60)) tNil))) (tCons (tC (V.int 0)) (tCons (tOp (rIx K) (tLst (tCons (tC (V.int 499)) (tCons (tC (V.int 500)) (tCons (tC (V.int 1000)) (tCons (tOp (rI CPow fun i j => V.int (i ^ j.toNat)) (tC (V.int 10)) (tC (V.int 30))) tNil))))) (tCall (sp_law_take K) [] E0 (tCons (tVar 0) (tCons (tC (V.int 4)) tNil)))) tNil))))) (List.replicate 3 (inT K Bnd)) := by
    refine tyi_lst (tyl_lst (Ts := List.replicate 3 (inT K Bnd)) (tya_cons (in_sub (dig_in (dig _ _ 60 _ rfl (by decide) (by decide) (Ty.is ty_int rfl))) fun i h => ⟨h.1, by omega⟩) (tya_cons (ty_in ty_int ⟨by decide, by decide⟩) (tya_cons (any_sub (Ts := List.replicate 4 (inT K Bnd)) (ty_pick (n := 4) (tyl_lst (Ts := List.replicate 4 (inT K Bnd)) (tya_cons (ty_in ty_int ⟨by decide, by decide⟩) (tya_cons (ty_in ty_int ⟨by decide, by decide⟩) (tya_cons (ty_in ty_int ⟨by decide, by decide⟩) (tya_cons (ty_in (ty_op ty_int ty_int (opt_pow ⟨by decide, by decide, by decide⟩)) ⟨by decide, by decide⟩) tya_nil)))) (by rw [List.length_replicate]; decide)).ty (dig _ _ 4 _ rfl (by decide) (by decide) (Ty.is ty_int rfl)) (by rw [List.length_replicate]; decide)) fun n hn v H z => by rw [rep_getD (by simpa using hn)] at z; exact z) tya_nil))) (by rw [List.length_replicate]; decide)).ty
  refine tys_for (Wi := fun _ (_ : Bool) => W) (Γi := fun i (y : Bool) => [some bx, some (dt K (.bool y)), some (dt K (restsD false l)), none, some (dt K (optD (joinI l))), none, some (dt K (restsD x l)), none, none, none, none, none]) x hi (fun _ _ => Wd.Like.refl W) (fun σ H g => ⟨g.1, EnvL.less (by exact ⟨fun _ _ _ _ h => h, fun _ _ _ _ h => h, fun _ _ _ _ h => h, fun _ _ _ _ h => h, fun _ _ _ _ h => h, True.intro⟩) g.2⟩) (fun i T' y hT => ?_) (fun y σ H g => ⟨y, g.1, EnvL.less (by exact ⟨fun _ _ _ _ h => h, fun _ _ _ _ h => h, fun _ _ _ _ h => h, True.intro⟩) g.2⟩)
  rw [List.getElem?_replicate] at hT
  split at hT
  rotate_left
  · cases hT
  cases hT
  refine ⟨_, tyg_name 9, TyS.openX (n := 9) rfl fun b => TyS.openG (n := 9) rfl fun hb => ?_⟩
  have hb : Bnd b := hb
  show TyS W [some bx, some (dt K (.bool y)), some (dt K (restsD false l)), none, some (dt K (optD (joinI l))), none, some (dt K (restsD x l)), none, none, some (dt K (.int b)), none, none] _ _ _ _ _
  have nb := nums_is l b
  have last : ∀ Bk Ct : Sx → Hp → Prop, TyS W [some bx, some (dt K (.bool y)), some (dt K (restsD false l)), none, some (dt K (optD (joinI l))), none, some (dt K (restsD x l)), none, none, some (dt K (.int b)), none, none] (tAsg (tNotV (tVar 1)) (gName 1)) (fun σ H => ∃ y : Bool, nE W [some bx, some (dt K (.bool y)), some (dt K (restsD false l)), none, some (dt K (optD (joinI l))), none, some (dt K (restsD x l)), none, none, none, none, none] σ H) (rW W (dt K (.bool true))) Bk Ct := fun Bk Ct =>
    TyS.imp (tys_set (ty_notV (ty_var rfl))) fun σ H g => ⟨!y, g.1, EnvL.less (by exact ⟨fun _ _ _ _ h => h, fun _ _ _ _ h => h, fun _ _ _ _ h => h, fun _ _ _ _ h => h, fun _ _ _ _ h => h, True.intro⟩) g.2⟩
  by_cases hm : 1000 < manyO l b
  · rw [if_pos hm] at nb
    refine tys_seqE (tys_set (ty_told (x := ⟨"numbers", [restsD x l, .int b], y, "many", .int (manyO l b)⟩) (.n3 _ _ l b (nwC_ok C hb) (areRests_ok C) (decide_eq_true hb.1) hm) (tya_cons ty_str (tya_cons (ty_lstD (ds := [restsD x l, .int b]) (tya_cons (ty_var rfl) (tya_cons (ty_var rfl) tya_nil)) (by show 2 ≤ 1000000; decide)) (tya_cons (ty_var rfl) tya_nil))))) ?_
    show TyS W [some bx, some (dt K (.bool y)), some (dt K (restsD false l)), none, some (dt K (optD (joinI l))), none, some (dt K (restsD x l)), none, none, some (dt K (.int b)), some (dt K (.list [.str "many", .int (manyO l b)])), none] _ _ _ _ _
    refine tys_guard (φ := (· = false)) (Tt.is (tt_notB (tt_B (ty_call (PyData.list [.str "many", .int (manyO l b)]) (smOk_told (n := 6) trivial (by decide)) (tya_cons (ty_var rfl) (tya_cons (Ty.is (ty_call (joinI l, b) (nin_ok C hb) (tya_cons (ty_var rfl) (tya_cons (ty_var rfl) tya_nil))) nb) tya_nil))))) rfl) (fun z => Bool.noConfusion z) fun _ => ?_
    exact tys_seqE (W' := W) (Γ' := [some bx, some (dt K (.bool y)), some (dt K (restsD false l)), none, some (dt K (optD (joinI l))), none, some (dt K (restsD x l)), none, none, some (dt K (.int b)), none, none]) (tys_if (φ := (· = false)) (Tt.is (tt_test (ty_op (ty_op (ty_var rfl) ty_int (opt_ixL (i := 0) (d := .str "many") (ds := [.str "many", .int (manyO l b)]) (atI_nat (j := 0) rfl))) ty_str opt_eqS)) (by decide)) (fun z => Bool.noConfusion z) fun _ => tys_next.imp fun σ H g => ⟨g.1, EnvL.less (by exact ⟨fun _ _ _ _ h => h, fun _ _ _ _ h => h, fun _ _ _ _ h => h, fun _ _ _ _ h => h, fun _ _ _ _ h => h, fun _ _ _ _ h => h, True.intro⟩) g.2⟩) (last _ _)
  · rw [if_neg hm] at nb
    have nl := nums_len hm
    have okT : smOk 8 (.list [.str "told", linD (numsO l b)]) := smOk_told (n := 6) (smOk_ints nl) (by decide)
    refine tys_ownR (T := fun D => lstT [dt K (.str "told"), isV (.ref D)]) (Ts := numTs K (numsO l b)) (tyr_callR (⟨"numbers", [restsD x l, .int b], y, "told", linD (numsO l b)⟩ : CallX) (.n _ _ l b (nwC_ok C hb) (areRests_ok C) (decide_eq_true hb.1) hm) (tya_cons ty_str (tya_cons (ty_lstD (ds := [restsD x l, .int b]) (tya_cons (ty_var rfl) (tya_cons (ty_var rfl) tya_nil)) (by show 2 ≤ 1000000; decide)) (tya_cons (ty_var rfl) tya_nil)))) (fun H0 v H c e z => ?k) fun D nbD nm => ?_
    case k =>
      obtain ⟨q, u, rfl, h2, h3, h4, h5⟩ := z
      obtain ⟨p, rfl, h6, h7⟩ := h5 ⟨rfl, rfl⟩
      cases h4 with
      | lst k1 k2 k3 => exact ⟨p, _, h6, k1, tys_intsT k3, q, _, rfl, fun w => w.elim (c.nm h2) (fun w => h7 w.symm), h3, .str _, rfl, True.intro⟩
    show TyS (W.own D nbD (numTs K (numsO l b))) [some bx, some (dt K (.bool y)), some (dt K (restsD false l)), none, some (dt K (optD (joinI l))), none, some (dt K (restsD x l)), none, none, some (dt K (.int b)), some (lstT [dt K (.str "told"), isV (.ref D)]), none] _ _ _ _ _
    have dat : ∀ σ H, nE (W.own D nbD (numTs K (numsO l b))) [some bx, some (dt K (.bool y)), some (dt K (restsD false l)), none, some (dt K (optD (joinI l))), none, some (dt K (restsD x l)), none, none, some (dt K (.int b)), some (lstT [dt K (.str "told"), isV (.ref D)]), none] σ H → EnvW W [some bx, some (dt K (.bool y)), some (dt K (restsD false l)), none, some (dt K (optD (joinI l))), none, some (dt K (restsD x l)), none, none, some (dt K (.int b)), some (dt K (.list [.str "told", linD (numsO l b)])), none] σ H := fun σ H g => by
      obtain ⟨_, _, ys, o1, o2⟩ := g.1.own
      refine env_retype (EnvL.drop g.2) (n := 10) (T := lstT [dt K (.str "told"), isV (.ref D)]) (U := dt K (.list [.str "told", linD (numsO l b)])) rfl fun v z => ?_
      obtain ⟨q, xs, rfl, nq, hq, hxs⟩ := z
      match xs, hxs with
      | [u, w], ⟨ha, hw, _⟩ =>
        obtain rfl : w = .ref D := hw
        exact .lst hq nq (.cons ha (.cons (.lst o1 nm (data_intsT (TysV.drop o2))) .nil))
    refine tys_guard (φ := (· = false)) (Tt.back (Γ' := [some bx, some (dt K (.bool y)), some (dt K (restsD false l)), none, some (dt K (optD (joinI l))), none, some (dt K (restsD x l)), none, none, some (dt K (.int b)), some (dt K (.list [.str "told", linD (numsO l b)])), none]) (Tt.is (tt_notB (tt_B (ty_call (PyData.list [.str "told", linD (numsO l b)]) okT (tya_cons (ty_var rfl) (tya_cons (Ty.is (ty_call (joinI l, b) (nin_ok C hb) (tya_cons (ty_var rfl) (tya_cons (ty_var rfl) tya_nil))) nb) tya_nil))))) rfl) dat) (fun z => Bool.noConfusion z) fun _ => ?_
    refine tys_seqB (Γ' := [some bx, some (dt K (.bool y)), some (dt K (restsD false l)), none, some (dt K (optD (joinI l))), none, some (dt K (restsD x l)), none, none, some (dt K (.int b)), none, none]) (tys_if (φ := (· = true)) (Tt.back (Γ' := [some bx, some (dt K (.bool y)), some (dt K (restsD false l)), none, some (dt K (optD (joinI l))), none, some (dt K (restsD x l)), none, none, some (dt K (.int b)), some (dt K (.list [.str "told", linD (numsO l b)])), none]) (Tt.is (tt_test (ty_op (ty_op (ty_var rfl) ty_int (opt_ixL (i := 0) (d := .str "told") (ds := [.str "told", linD (numsO l b)]) (atI_nat (j := 0) rfl))) ty_str opt_eqS)) (by decide)) dat) (fun _ => ?br) fun z => Bool.noConfusion z) (last _ _)
    refine tys_seqE (tys_appendE (T := dt K (.str "more")) (ty_op (ty_var rfl) (Ty.is ty_int rfl) (opt_ixLT (K := K) (n := 1) rfl)) ty_str (by rw [numTs, List.length_map]; omega)) ?_
    refine TyS.back (Γ' := [some bx, some (dt K (.bool y)), some (dt K (restsD false l)), none, some (dt K (optD (joinI l))), none, some (dt K (restsD x l)), none, none, some (dt K (.int b)), none, none]) ?_ fun σ H g => EnvL.less (by exact ⟨fun _ _ _ _ h => h, fun _ _ _ _ h => h, fun _ _ _ _ h => h, fun _ _ _ _ h => h, fun _ _ _ _ h => h, fun _ _ _ _ h => h, True.intro⟩) (EnvL.drop g.2)
    refine tys_seqE (tys_set (ty_told (x := ⟨"numbers", [restsD false l, .int b], !y, "told", linD (numsO l b)⟩) (.n _ _ l b (nwC_ok C hb) (areRests_ok C) (decide_eq_true hb.1) hm) (tya_cons ty_str (tya_cons (ty_lstD (ds := [restsD false l, .int b]) (tya_cons (ty_listOf (b := x) (ty_var rfl)) (tya_cons (ty_var rfl) tya_nil)) (by show 2 ≤ 1000000; decide)) (tya_cons (ty_notV (ty_var rfl)) tya_nil))))) ?_
    exact tys_if (φ := (· = false)) (Tt.is (tt_notB (tt_B (ty_call (PyData.list [.str "told", linD (numsO l b)]) okT (tya_cons (ty_var rfl) (tya_cons (Ty.is (ty_call (joinI l, b) (nin_ok C hb) (tya_cons (ty_var rfl) (tya_cons (ty_var rfl) tya_nil))) nb) tya_nil))))) rfl) (fun z => Bool.noConfusion z) fun _ => tys_next.imp fun σ H g => ⟨g.1, EnvL.less (by exact ⟨fun _ _ _ _ h => h, fun _ _ _ _ h => h, fun _ _ _ _ h => h, fun _ _ _ _ h => h, fun _ _ _ _ h => h, fun _ _ _ _ h => h, True.intro⟩) g.2⟩
end
section
variable {P : Program} {w : World} {K : PySem.W.Frag} {mg : Str → Option Value} {base : Heap}
def intT (K : PySem.W.Frag) : Typ := exT fun i : Int => dt K (.int i)
/-- the script, as the law is called with it: no one may write to it -/
def SqF (K : PySem.W.Frag) (H : Hp) (a : Addr) (xs : List V) : Prop :=
  (∃ o, H a = some (.frz o (.lst xs))) ∨ ∃ (o : Obj) (its : Array Value) (n : Nat), K.lookup a = some o ∧ o.cls = .type "list" ∧ o.dict = none ∧ o.data = .seq its n ∧ its.size ≤ sizeLine ∧ Vals xs its.toList
theorem SqF.sq {K : PySem.W.Frag} {H : Hp} {a : Addr} {xs : List V} (h : SqF K H a xs) : SqL K H a xs := h.elim (fun ⟨o, h⟩ => .inl (.inr ⟨o, h⟩)) .inr
def scrT (K : PySem.W.Frag) (ns : List Int) : Typ := ⟨fun _ _ v H => ∃ a, v = .ref a ∧ SqF K H a (ns.map V.int), fun e ⟨a, h1, h2⟩ => ⟨a, h1, h2.elim (fun ⟨o, h⟩ => .inl ⟨o, e.keepT h fun _ z => nomatch z⟩) .inr⟩, fun _ h => h, fun h => h⟩
theorem cbt_lenScr {W : Wd} {K : PySem.W.Frag} {ns : List Int} : CbT W (rLen K) [scrT K ns] (dt K (.int (ns.length : Nat))) := fun us H c hu Q q => by
  obtain ⟨v, rfl, a, rfl, h⟩ := hu.one
  exact ⟨_, ns.length, rfl, .inl ⟨_, h.sq, by rw [List.length_map]⟩, q _ H (Ex.refl _ _) (.int _)⟩
theorem opt_ixScr {W : Wd} {K : PySem.W.Frag} {ns : List Int} {n : Nat} {z : Int} (e : ns[n]? = some z) : OpT W (rIx K) (scrT K ns) (dt K (.int (n : Nat))) (dt K (.int z)) := fun u v H c ⟨a, h1, h2⟩ hv Q q => by
  subst h1
  cases hv
  exact .inl ⟨a, _, (n : Int), .int z, rfl, rfl, h2.sq, atI_nat (by rw [List.getElem?_map, e]; rfl), q _ H (Ex.refl _ _) (.int _)⟩
theorem tys_of_ints {M B : Addr → Prop} {K : PySem.W.Frag} {H : Hp} : ∀ ns : List Int, TysV M B (ns.map fun n => dt K (.int n)) (ns.map V.int) H
  | [] => True.intro
  | n :: ns => ⟨.int n, tys_of_ints ns⟩
theorem cutV_ints (ns : List Int) (lo hi : Option Int) : cutV (ns.map V.int) lo hi = (cutD ns lo hi).map V.int := by
  unfold cutV cutD
  rw [List.length_map, ← List.map_drop, ← List.map_take]
theorem ty_slScr {W : Wd} {Γ : Gam} {K : PySem.W.Frag} {ns : List Int} {te : TE} {tl th : TO} {lo hi : Option Int} (h : Ty W Γ te (scrT K ns)) (hl : TyO W Γ tl lo) (hh : TyO W Γ th hi) : Ty W Γ (tSl (rSlAll K) te tl th) (lstT ((cutD ns lo hi).map fun n => dt K (.int n))) := fun σ H c g Q q =>
  h σ H c g _ fun v H1 e1 hv => hl σ H1 (c.up e1) (g.up e1.toW) _ fun H2 e2 => hh σ H2 (c.up (e1.trans e2)) (g.up (e1.trans e2).toW) _ fun H3 e3 => by
    obtain ⟨a, rfl, h2⟩ := (scrT K ns).up (e2.trans e3).toW hv
    have e13 := e1.trans (e2.trans e3)
    exact .inl ⟨a, _, rfl, h2.sq, fun p hp => q _ _ (e13.trans (Ex.new hp)) ⟨p, _, rfl, c.nm (e13.free hp), upd_same, by rw [cutV_ints]; exact tys_of_ints _⟩⟩
def sp_law_cell (K : PySem.W.Frag) : Sp := spT (fun x : List Int × Nat => x.2 ≤ 1000) (fun x => [scrT K x.1, dt K (.int (x.2 : Nat))]) (fun _ => intT K)
theorem ok_law_cell (T : Tx P K mg) : FnOk P w K mg base (L2.CX P w) 1 T.a_law_cell T.f_law_cell ["script", "k"] (sp_law_cell K) := by
  have nd := sc_law_cell.nd
  refine fn_ty T.F_law_cell sc_law_cell (fun x _ => rfl) fun cdv Ar outer s H E hr => ⟨_, (pss_one (ps_ret (pe_ifExp (pt_cmpR op_lt (pv 1) (k_len (K := K) rfl T.m_len (pa_cons (pv 0) pa_nil)) (nomark _)) (pe_ix (k_ix (K := K) rfl) (pv 0) (pv 1) (fun _ _ => rfl)) (pe_op (k_add (K := K) rfl) (pe_op op_mulA pe_int (pv 1)) (pe_op op_mod (bi_int T.m_int (pa_cons (k_sum (K := K) rfl T.m_sum (pa_cons (pe_slice (k_sl (K := K) rfl) (pv 0) po_none (po_some pe_int)) pa_nil)) pa_nil)) pe_int))))), fun W x hC => ?_⟩
  obtain ⟨l, n⟩ := x
  dsimp only at hC
  refine TyS.never (tys_retW (ty_if (φ := (· = decide ((n : Int) < (l.length : Nat)))) (tt_test (ty_op (ty_var rfl) (ty_cb (tya_cons (ty_var rfl) tya_nil) cbt_lenScr) opt_lt)) (fun z => ?_) fun z => ?_))
  · have hn : n < l.length := by
      have z1 := of_decide_eq_true z.symm
      omega
    exact Ty.ex (l[n]) (ty_op (ty_var rfl) (ty_var rfl) (opt_ixScr (List.getElem?_eq_getElem hn)))
  · exact Ty.ex (A := fun i : Int => dt K (.int i)) _ (ty_op (ty_op ty_int (ty_var rfl) (opt_mul (.inl ⟨by decide, by decide⟩))) (ty_op (ty_cb (tya_cons (ty_cb (tya_cons (ty_slScr (ty_var rfl) tyo_none (tyo_some (ty_int (K := K)))) tya_nil) cbt_sum) tya_nil) cbt_intI) ty_int (opt_mod (by decide))) opt_add)
end
section
variable {P : Program} {w : World} {K : PySem.W.Frag} {mg : Str → Option Value} {base : Heap}
theorem tyl_callX {W : Wd} {Γ : Gam} {tl : TA} {α : Type} {C : α → Prop} {A Ts : α → List Typ} {E : XK} {As Us : List Typ} (h : TyA W Γ tl As)
    (k : ∀ vs H, TysV W.M W.B As vs H → ∃ x, C x ∧ TysV W.M W.B (A x) vs H ∧ ∀ xs H', TysV W.M W.B (Ts x) xs H' → TysV W.M W.B Us xs H') : TyL W Γ (tCall (spL C A Ts) [] E tl) Us := fun σ H c g Q q =>
  h σ H c g _ fun vs H1 e1 hv => by
    obtain ⟨x, hC, hA, hR⟩ := k vs H1 hv
    exact ⟨W.M, W.B, x, W.sub, (c.up e1).box, (c.up e1).al, hC, by rw [List.append_nil]; exact hA, fun p xs H2 e2 hp h2 h3 => q p xs H2 (e1.trans e2) (e1.free hp) h2 (hR xs H2 h3)⟩
def bxU (K : PySem.W.Frag) : List Typ := [exT fun i : Int => dt K (.int i), exT fun b : Bool => dt K (.bool b), exT fun c : Int => gd (0 ≤ c ∧ c < 2147483629) (dt K (.int c)), exT fun i : Int => dt K (.int i)]
theorem bxU_box {K : PySem.W.Frag} {M B : Addr → Prop} {xs : List V} {H : Hp} (h : TysV M B (bxU K) xs H) : BxL xs := by
  unfold bxU at h
  obtain ⟨a, b, c, d, rfl, h1, h2, h3, h4⟩ := tysv4 h
  obtain ⟨i, h1⟩ := h1
  obtain ⟨z, h2⟩ := h2
  obtain ⟨k, hk, h3⟩ := h3
  obtain ⟨j, h4⟩ := h4
  cases h1; cases h2; cases h3; cases h4
  exact ⟨_, _, _, _, rfl, hk.1, hk.2⟩
theorem boxTs_U {K : PySem.W.Frag} {M B : Addr → Prop} {g : Int} {xs : List V} {H : Hp} (h : TysV M B (boxTs K g) xs H) : TysV M B (bxU K) xs H := by
  obtain ⟨a, b, c, d, rfl, h1, h2, h3, h4⟩ := tysv4 h
  have k1 : (exT fun i : Int => dt K (.int i)).p M B a H := ⟨absI g, h1⟩
  have k2 : (exT fun b : Bool => dt K (.bool b)).p M B b H := ⟨decide ((10 : Int) ^ (18 : Int).toNat ≤ absI g), h2⟩
  have k3 : (exT fun c : Int => gd (0 ≤ c ∧ c < 2147483629) (dt K (.int c))).p M B c H := ⟨absI g % 2147483629, ⟨Int.emod_nonneg _ (by decide), Int.emod_lt_of_pos _ (by decide)⟩, h3⟩
  have k4 : (exT fun i : Int => dt K (.int i)).p M B d H := ⟨0, h4⟩
  exact ⟨k1, k2, k3, k4, True.intro⟩
theorem env2 {M B : Addr → Prop} {A C : Typ} {σ : Sx} {H : Hp} (g : EnvL M B [some A, some C, none, none] σ H) : ∃ u v s2 s3, σ = [some u, some v, s2, s3] ∧ A.p M B u H ∧ C.p M B v H := by
  match σ, g with
  | [some u, some v, s2, s3], g => exact ⟨u, v, s2, s3, rfl, g.1, g.2.1⟩
theorem env1 {M B : Addr → Prop} {A : Typ} {σ : Sx} {H : Hp} (g : EnvL M B [some A, none, none, none] σ H) : ∃ u s1 s2 s3, σ = [some u, s1, s2, s3] ∧ A.p M B u H := by
  match σ, g with
  | [some u, s1, s2, s3], g => exact ⟨u, s1, s2, s3, rfl, g.1⟩
theorem tysv1 {M B : Addr → Prop} {A1 : Typ} {us : List V} {H : Hp} (h : TysV M B [A1] us H) : ∃ a, us = [a] ∧ A1.p M B a H := by
  match us, h with
  | [a], h => exact ⟨a, rfl, h.1⟩
def sp_law (K : PySem.W.Frag) : Sp := spT (fun _ : List Int => True) (fun ns => [scrT K ns]) (fun _ => dt K (.bool true))
theorem ok_law (T : Tx P K mg) : FnOk P w K mg base (L2.CX P w) 15 T.a_law T.f_law ["script"] (sp_law K) := by
  have G_law_box := ok_law_box (w := w) (base := base) T
  have G_law_cell := ok_law_cell (w := w) (base := base) T
  have G_law_take := ok_law_take (w := w) (base := base) T
  have G_law_scene_right := ok_law_scene_right (w := w) (base := base) T
  have nd := sc_law.nd
  refine fn_ty T.F_law sc_law (fun x _ => rfl) fun cdv Ar outer s H E hr => ⟨_, (pss_cons (ps_for PassesOwn.never rfl (pi_range1 rfl T.m_range (pa_cons (bi_max2 T.m_max (pa_cons pe_int (pa_cons (bi_min2 T.m_min (pa_cons pe_int (pa_cons (k_len (K := K) rfl T.m_len (pa_cons (pv 0) pa_nil)) pa_nil))) pa_nil))) pa_nil)) (pgn 1 nd) (pss_cons (pset 2 nd (pcall G_law_box (hr.mono (by decide)) T.D_law_box (pa_cons (pcall G_law_cell (hr.mono (by decide)) T.D_law_cell (pa_cons (pv 0) (pa_cons (pv 1) pa_nil))) pa_nil)))
    (pss_cons (pset 3 nd (pe_cmpR (k_eq (K := K) rfl hr.units) (pcall G_law_take (hr.mono (by decide)) T.D_law_take (pa_cons (pv 2) (pa_cons pe_int pa_nil))) pe_int (nomark _)))
    (pss_one (ps_if (PW.pt (pw_or (pt_not (pt_val (pcall G_law_scene_right (hr.mono (by decide)) T.D_law_scene_right (pa_cons (pv 2) (pa_cons (pv 3) pa_nil))))) (pw_or1 (pt_not (pt_val (pcall G_law_scene_right (hr.mono (by decide)) T.D_law_scene_right (pa_cons (pv 2) (pa_cons (pe_not (pv 3)) pa_nil)))))))) (pss_one (ps_ret pe_bl)) pss_nil)))))
    (pss_one (ps_ret pe_bl))), fun W x hC => ?_⟩
  refine tys_seqE (W' := W) (Γ' := [some (scrT K x), none, none, none]) ?_ (TyS.never (tys_retW ty_bl))
  have hi : TyI W [some (scrT K x), none, none, none] (iRng1 (tCons (tCB rMax2 (tCons (tC (.int 2)) (tCons (tCB rMin2 (tCons (tC (.int 4)) (tCons (tCB (rLen K) (tCons (tVar 0) tNil)) tNil))) tNil))) tNil)) ((List.range (if (if ((x.length : Nat) : Int) < 4 then ((x.length : Nat) : Int) else 4) > 2 then (if ((x.length : Nat) : Int) < 4 then ((x.length : Nat) : Int) else 4) else 2 : Int).toNat).map fun i : Nat => dt K (.int (i : Nat))) := by
    refine tyi_rng1 (tya_cons (ty_cb (tya_cons ty_int (tya_cons (ty_cb (tya_cons ty_int (tya_cons (ty_cb (tya_cons (ty_var rfl) tya_nil) cbt_lenScr) tya_nil)) cbt_min2) tya_nil)) cbt_max2) tya_nil) ?_ ?_
    · split <;> (try split) <;> omega
    · split <;> (try split) <;> omega
  have hn : (if (if ((x.length : Nat) : Int) < 4 then ((x.length : Nat) : Int) else 4) > 2 then (if ((x.length : Nat) : Int) < 4 then ((x.length : Nat) : Int) else 4) else 2 : Int).toNat ≤ 4 := by
    split <;> (try split) <;> omega
  generalize (if (if ((x.length : Nat) : Int) < 4 then ((x.length : Nat) : Int) else 4) > 2 then (if ((x.length : Nat) : Int) < 4 then ((x.length : Nat) : Int) else 4) else 2 : Int).toNat = m at hi hn
  refine tys_for (Wi := fun _ (_ : Unit) => W) (Γi := fun _ (_ : Unit) => [some (scrT K x), none, none, none]) () hi (fun _ _ => Wd.Like.refl W) (fun σ H g => g) (fun i T' _ hT => ?_) (fun _ σ H g => g)
  obtain ⟨hl, rfl⟩ := range_map_get hT
  refine ⟨_, tyg_name 1, ?_⟩
  show TyS W [some (scrT K x), some (dt K (.int (i : Nat))), none, none] _ _ _ _ _
  refine TyS.imp (tys_box (Γ' := [some (scrT K x), none, none, none]) (T := dt K (.bool true)) (tyl_callX (As := [intT K]) (Us := bxU K) (tya_cons (ty_call (x, i) (show i ≤ 1000 by omega) (tya_cons (ty_var rfl) (tya_cons (ty_var rfl) tya_nil))) tya_nil) fun vs H hv => ?_) (fun xs H h => bxU_box h) (fun p σ H0 H e h0 g => ?_) (fun p np => ?_) (fun p σ H g => ?_) (fun p v H z => Rp.drop z)) fun σ H g => ⟨(), g⟩
  · obtain ⟨a, rfl, g, hg⟩ := tysv1 hv
    exact ⟨g, trivial, ⟨hg, True.intro⟩, fun xs H' z => boxTs_U z⟩
  · obtain ⟨u, v, s2, s3, rfl, g1, g2⟩ := env2 g
    cases g2
    have g3 : (scrT K x).p W.M W.B u H := (scrT K x).up e g1
    exact ⟨g3, .int _, True.intro⟩
  · show TyS (W.bx p) [some (scrT K x), some (dt K (.int (i : Nat))), some bx, none] _ _ _ _ _
    refine tys_seqE (tys_set (T := exT fun g : Bool => dt K (.bool g)) (ty_opX (α := Nat) (A := fun k => gd (k < 2) (dt K (.int (k : Nat)))) (P := fun g : Bool => dt K (.bool g)) (ty_call 2 ⟨by decide, by decide⟩ (tya_cons (ty_var rfl) (tya_cons (Ty.is ty_int rfl) tya_nil))) (ty_int (n := 0)) fun k => ⟨decide ((k : Int) = 0), OpT.gdl fun _ => opt_eqI⟩)) ?_
    refine TyS.openX (n := 3) rfl fun nm => ?_
    show TyS (W.bx p) [some (scrT K x), some (dt K (.int (i : Nat))), some bx, some (dt K (.bool nm))] _ _ _ _ _
    refine tys_if (φ := (· = false)) (Tt.is (tt_orB (a := false) (Tt.is (tt_notB (tt_B (ty_call nm trivial (tya_cons (ty_var rfl) (tya_cons (ty_var rfl) tya_nil))))) rfl) fun _ => Tt.is (tt_notB (tt_B (ty_call (!nm) trivial (tya_cons (ty_var rfl) (tya_cons (ty_notV (ty_var rfl)) tya_nil))))) rfl) rfl) (fun z => Bool.noConfusion z) (fun _ => tys_next.imp fun σ H n => ⟨n.1, EnvL.less (by exact ⟨fun _ _ _ _ h => h, True.intro⟩) n.2⟩)
  · obtain ⟨u, s1, s2, s3, rfl, g1⟩ := env1 g
    exact ⟨g1, True.intro⟩
end
end
section
open PySem PySem.Spec PyProof.Rows L2 Ew
theorem exm_of {K : PySem.W.Frag} {S R : Addr} {b : Bool} (h1 : PySem.W.subIn K (.ref S) (.type "BaseException") = some true) (h1' : PySem.W.subIn K (.ref R) (.type "BaseException") = some true) (h2 : PySem.W.isClsIn K R = true) (h3 : PySem.W.typeIn K (.ref R) = some (.type "type")) (h4 : PySem.W.subIn K (.ref S) (.ref R) = some b) :
    PySem.W.exmOne K (.ref S) (.ref R) = some b := by
  have e1 : (PySem.W.subIn K (.ref R) (.type "BaseException") == some true) = true := by rw [h1'] <;> rfl
  have e2 : ((PySem.W.clsIn K R).isSome && PySem.W.typeIn K (.ref R) == some (.type "type")) = true := by
    have h2' : (PySem.W.clsIn K R).isSome = true := h2
    rw [h2', h3] <;> rfl
  show (if (PySem.W.subIn K (.ref R) (.type "BaseException") == some true) = true then (if ((PySem.W.clsIn K R).isSome && PySem.W.typeIn K (.ref R) == some (.type "type")) = true then PySem.W.subIn K (.ref S) (.ref R) else none) else none) = some b
  rw [if_pos e1, if_pos e2]
  exact h4
theorem all_mk {P : Program} {w : World} {K : PySem.W.Frag} {h : Heap} {mg : Str → Option Value} {fa : Addr} (X : K.In h) (G : h.Ns mainGlobals mg) (hfa : mg "law" = some (.ref fa))
    {f_is_whole : Addr} {oc_is_whole kV_is_whole dc_is_whole pm_is_whole cd_is_whole ct_is_whole : Value} {od_is_whole an_is_whole : Option Addr} {sl_is_whole : Array (Option Value)}
    {f_is_list : Addr} {oc_is_list kV_is_list dc_is_list pm_is_list cd_is_list ct_is_list : Value} {od_is_list an_is_list : Option Addr} {sl_is_list : Array (Option Value)}
    {f_shared : Addr} {oc_shared kV_shared dc_shared pm_shared cd_shared ct_shared : Value} {od_shared an_shared : Option Addr} {sl_shared : Array (Option Value)}
    {f_are_rests : Addr} {oc_are_rests kV_are_rests dc_are_rests pm_are_rests cd_are_rests ct_are_rests : Value} {od_are_rests an_are_rests : Option Addr} {sl_are_rests : Array (Option Value)}
    {f_check_rests : Addr} {oc_check_rests kV_check_rests dc_check_rests pm_check_rests cd_check_rests ct_check_rests : Value} {od_check_rests an_check_rests : Option Addr} {sl_check_rests : Array (Option Value)}
    {f_joined_two : Addr} {oc_joined_two kV_joined_two dc_joined_two pm_joined_two cd_joined_two ct_joined_two : Value} {od_joined_two an_joined_two : Option Addr} {sl_joined_two : Array (Option Value)}
    {f_joined_in : Addr} {oc_joined_in kV_joined_in dc_joined_in pm_joined_in cd_joined_in ct_joined_in : Value} {od_joined_in an_joined_in : Option Addr} {sl_joined_in : Array (Option Value)}
    {f_joined : Addr} {oc_joined kV_joined dc_joined pm_joined cd_joined ct_joined : Value} {od_joined an_joined : Option Addr} {sl_joined : Array (Option Value)}
    {f_clash : Addr} {oc_clash kV_clash dc_clash pm_clash cd_clash ct_clash : Value} {od_clash an_clash : Option Addr} {sl_clash : Array (Option Value)}
    {f_check_bound : Addr} {oc_check_bound kV_check_bound dc_check_bound pm_check_bound cd_check_bound ct_check_bound : Value} {od_check_bound an_check_bound : Option Addr} {sl_check_bound : Array (Option Value)}
    {f_numbers_in : Addr} {oc_numbers_in kV_numbers_in dc_numbers_in pm_numbers_in cd_numbers_in ct_numbers_in : Value} {od_numbers_in an_numbers_in : Option Addr} {sl_numbers_in : Array (Option Value)}
    {f_numbers_with : Addr} {oc_numbers_with kV_numbers_with dc_numbers_with pm_numbers_with cd_numbers_with ct_numbers_with : Value} {od_numbers_with an_numbers_with : Option Addr} {sl_numbers_with : Array (Option Value)}
    {f_law_box : Addr} {oc_law_box kV_law_box dc_law_box pm_law_box cd_law_box ct_law_box : Value} {od_law_box an_law_box : Option Addr} {sl_law_box : Array (Option Value)}
    {f_law_take : Addr} {oc_law_take kV_law_take dc_law_take pm_law_take cd_law_take ct_law_take : Value} {od_law_take an_law_take : Option Addr} {sl_law_take : Array (Option Value)}
    {f_law_cell : Addr} {oc_law_cell kV_law_cell dc_law_cell pm_law_cell cd_law_cell ct_law_cell : Value} {od_law_cell an_law_cell : Option Addr} {sl_law_cell : Array (Option Value)}
    {f_law_common : Addr} {oc_law_common kV_law_common dc_law_common pm_law_common cd_law_common ct_law_common : Value} {od_law_common an_law_common : Option Addr} {sl_law_common : Array (Option Value)}
    {f_law_same : Addr} {oc_law_same kV_law_same dc_law_same pm_law_same cd_law_same ct_law_same : Value} {od_law_same an_law_same : Option Addr} {sl_law_same : Array (Option Value)}
    {f_law_rests : Addr} {oc_law_rests kV_law_rests dc_law_rests pm_law_rests cd_law_rests ct_law_rests : Value} {od_law_rests an_law_rests : Option Addr} {sl_law_rests : Array (Option Value)}
    {f_law_do_meet : Addr} {oc_law_do_meet kV_law_do_meet dc_law_do_meet pm_law_do_meet cd_law_do_meet ct_law_do_meet : Value} {od_law_do_meet an_law_do_meet : Option Addr} {sl_law_do_meet : Array (Option Value)}
    {f_law_share : Addr} {oc_law_share kV_law_share dc_law_share pm_law_share cd_law_share ct_law_share : Value} {od_law_share an_law_share : Option Addr} {sl_law_share : Array (Option Value)}
    {f_law_step : Addr} {oc_law_step kV_law_step dc_law_step pm_law_step cd_law_step ct_law_step : Value} {od_law_step an_law_step : Option Addr} {sl_law_step : Array (Option Value)}
    {f_law_joined : Addr} {oc_law_joined kV_law_joined dc_law_joined pm_law_joined cd_law_joined ct_law_joined : Value} {od_law_joined an_law_joined : Option Addr} {sl_law_joined : Array (Option Value)}
    {f_law_clash : Addr} {oc_law_clash kV_law_clash dc_law_clash pm_law_clash cd_law_clash ct_law_clash : Value} {od_law_clash an_law_clash : Option Addr} {sl_law_clash : Array (Option Value)}
    {f_law_still : Addr} {oc_law_still kV_law_still dc_law_still pm_law_still cd_law_still ct_law_still : Value} {od_law_still an_law_still : Option Addr} {sl_law_still : Array (Option Value)}
    {f_law_call : Addr} {oc_law_call kV_law_call dc_law_call pm_law_call cd_law_call ct_law_call : Value} {od_law_call an_law_call : Option Addr} {sl_law_call : Array (Option Value)}
    {f_law_numbers : Addr} {oc_law_numbers kV_law_numbers dc_law_numbers pm_law_numbers cd_law_numbers ct_law_numbers : Value} {od_law_numbers an_law_numbers : Option Addr} {sl_law_numbers : Array (Option Value)}
    {f_law_refused_right : Addr} {oc_law_refused_right kV_law_refused_right dc_law_refused_right pm_law_refused_right cd_law_refused_right ct_law_refused_right : Value} {od_law_refused_right an_law_refused_right : Option Addr} {sl_law_refused_right : Array (Option Value)}
    {f_law_scene_right : Addr} {oc_law_scene_right kV_law_scene_right dc_law_scene_right pm_law_scene_right cd_law_scene_right ct_law_scene_right : Value} {od_law_scene_right an_law_scene_right : Option Addr} {sl_law_scene_right : Array (Option Value)}
    {f_law : Addr} {oc_law kV_law dc_law pm_law cd_law ct_law : Value} {od_law an_law : Option Addr} {sl_law : Array (Option Value)}
    {tk_MOST_RESTS : Tok}
    {tk_MOST_TOLD : Tok}
    {D fI Td cda cc : Addr} {nmD qD : Str} {ND : Addr} {bsD subD : List Value} {snD : List Str} {abD : Bool} {colD : Option Bool} {ddD : Option Addr} {w0 w1 w2 w3 w5 : Option Value}
    {iOc ikV idoc ipm ict : Value} {iod ian : Option Addr} {iosl : Array (Option Value)} {p1 p2 p3 q1 q2 q3 q4 q5 q6 q7 q8 q9 q10 : Pos} {ccl cl tc : Value} {cdd cld td : Option Addr} {vs : Array Value} {ccs csl tsl : Array (Option Value)} {file : Str} {tf : Tok} {nT : Nat}
    {C_TooMany : Addr} {nm_TooMany q_TooMany : Str} {N_TooMany : Addr} {bs_TooMany su_TooMany : List Value} {sn_TooMany : List Str} {ab_TooMany : Bool} {col_TooMany : Option Bool} {dd_TooMany : Option Addr} {u0_TooMany u1_TooMany u2_TooMany u3_TooMany u5_TooMany : Option Value}
    {J_TooMany Jcd_TooMany Jcc_TooMany : Addr} {jOc_TooMany jkV_TooMany jdoc_TooMany jpm_TooMany jct_TooMany : Value} {jod_TooMany jan_TooMany : Option Addr} {josl_TooMany : Array (Option Value)} {ja1_TooMany ja2_TooMany jb1_TooMany jb2_TooMany jb3_TooMany jb4_TooMany jb5_TooMany jb6_TooMany jb7_TooMany jb8_TooMany jb9_TooMany jb10_TooMany : Pos} {jccl_TooMany jcl_TooMany : Value} {jcdd_TooMany jcld_TooMany : Option Addr} {jvs_TooMany : Array Value} {jccs_TooMany jcsl_TooMany : Array (Option Value)} {jfile_TooMany : Str} {jtf_TooMany : Tok}
    {C_InvalidRests : Addr} {nm_InvalidRests q_InvalidRests : Str} {N_InvalidRests : Addr} {bs_InvalidRests su_InvalidRests : List Value} {sn_InvalidRests : List Str} {ab_InvalidRests : Bool} {col_InvalidRests : Option Bool} {dd_InvalidRests : Option Addr} {u0_InvalidRests u1_InvalidRests u2_InvalidRests u3_InvalidRests u5_InvalidRests : Option Value}
    {C_InvalidBound : Addr} {nm_InvalidBound q_InvalidBound : Str} {N_InvalidBound : Addr} {bs_InvalidBound su_InvalidBound : List Value} {sn_InvalidBound : List Str} {ab_InvalidBound : Bool} {col_InvalidBound : Option Bool} {dd_InvalidBound : Option Addr} {u0_InvalidBound u1_InvalidBound u2_InvalidBound u3_InvalidBound u5_InvalidBound : Option Value}
    (a_is_whole : PySem.W.nsIn K mainGlobals "is_whole" = some (some (.ref f_is_whole)))
    (l_is_whole : K.lookup f_is_whole = some ⟨oc_is_whole, od_is_whole, .func (PySem.W.fnOf "is_whole" "is_whole" (defArgs s_is_whole) (defBody s_is_whole) (defScope s_is_whole) .none kV_is_whole dc_is_whole pm_is_whole an_is_whole cd_is_whole ct_is_whole), sl_is_whole⟩)
    (c_is_whole : PySem.W.codeIn K cd_is_whole "is_whole" = true)
    (k_is_whole : PySem.W.keepIn K (.ref f_is_whole) = true)
    (a_is_list : PySem.W.nsIn K mainGlobals "is_list" = some (some (.ref f_is_list)))
    (l_is_list : K.lookup f_is_list = some ⟨oc_is_list, od_is_list, .func (PySem.W.fnOf "is_list" "is_list" (defArgs s_is_list) (defBody s_is_list) (defScope s_is_list) .none kV_is_list dc_is_list pm_is_list an_is_list cd_is_list ct_is_list), sl_is_list⟩)
    (c_is_list : PySem.W.codeIn K cd_is_list "is_list" = true)
    (k_is_list : PySem.W.keepIn K (.ref f_is_list) = true)
    (a_shared : PySem.W.nsIn K mainGlobals "shared" = some (some (.ref f_shared)))
    (l_shared : K.lookup f_shared = some ⟨oc_shared, od_shared, .func (PySem.W.fnOf "shared" "shared" (defArgs s_shared) (defBody s_shared) (defScope s_shared) .none kV_shared dc_shared pm_shared an_shared cd_shared ct_shared), sl_shared⟩)
    (c_shared : PySem.W.codeIn K cd_shared "shared" = true)
    (k_shared : PySem.W.keepIn K (.ref f_shared) = true)
    (a_are_rests : PySem.W.nsIn K mainGlobals "are_rests" = some (some (.ref f_are_rests)))
    (l_are_rests : K.lookup f_are_rests = some ⟨oc_are_rests, od_are_rests, .func (PySem.W.fnOf "are_rests" "are_rests" (defArgs s_are_rests) (defBody s_are_rests) (defScope s_are_rests) .none kV_are_rests dc_are_rests pm_are_rests an_are_rests cd_are_rests ct_are_rests), sl_are_rests⟩)
    (c_are_rests : PySem.W.codeIn K cd_are_rests "are_rests" = true)
    (k_are_rests : PySem.W.keepIn K (.ref f_are_rests) = true)
    (a_check_rests : PySem.W.nsIn K mainGlobals "check_rests" = some (some (.ref f_check_rests)))
    (l_check_rests : K.lookup f_check_rests = some ⟨oc_check_rests, od_check_rests, .func (PySem.W.fnOf "check_rests" "check_rests" (defArgs s_check_rests) (defBody s_check_rests) (defScope s_check_rests) .none kV_check_rests dc_check_rests pm_check_rests an_check_rests cd_check_rests ct_check_rests), sl_check_rests⟩)
    (c_check_rests : PySem.W.codeIn K cd_check_rests "check_rests" = true)
    (k_check_rests : PySem.W.keepIn K (.ref f_check_rests) = true)
    (a_joined_two : PySem.W.nsIn K mainGlobals "joined_two" = some (some (.ref f_joined_two)))
    (l_joined_two : K.lookup f_joined_two = some ⟨oc_joined_two, od_joined_two, .func (PySem.W.fnOf "joined_two" "joined_two" (defArgs s_joined_two) (defBody s_joined_two) (defScope s_joined_two) .none kV_joined_two dc_joined_two pm_joined_two an_joined_two cd_joined_two ct_joined_two), sl_joined_two⟩)
    (c_joined_two : PySem.W.codeIn K cd_joined_two "joined_two" = true)
    (k_joined_two : PySem.W.keepIn K (.ref f_joined_two) = true)
    (a_joined_in : PySem.W.nsIn K mainGlobals "joined_in" = some (some (.ref f_joined_in)))
    (l_joined_in : K.lookup f_joined_in = some ⟨oc_joined_in, od_joined_in, .func (PySem.W.fnOf "joined_in" "joined_in" (defArgs s_joined_in) (defBody s_joined_in) (defScope s_joined_in) .none kV_joined_in dc_joined_in pm_joined_in an_joined_in cd_joined_in ct_joined_in), sl_joined_in⟩)
    (c_joined_in : PySem.W.codeIn K cd_joined_in "joined_in" = true)
    (k_joined_in : PySem.W.keepIn K (.ref f_joined_in) = true)
    (a_joined : PySem.W.nsIn K mainGlobals "joined" = some (some (.ref f_joined)))
    (l_joined : K.lookup f_joined = some ⟨oc_joined, od_joined, .func (PySem.W.fnOf "joined" "joined" (defArgs s_joined) (defBody s_joined) (defScope s_joined) .none kV_joined dc_joined pm_joined an_joined cd_joined ct_joined), sl_joined⟩)
    (c_joined : PySem.W.codeIn K cd_joined "joined" = true)
    (k_joined : PySem.W.keepIn K (.ref f_joined) = true)
    (a_clash : PySem.W.nsIn K mainGlobals "clash" = some (some (.ref f_clash)))
    (l_clash : K.lookup f_clash = some ⟨oc_clash, od_clash, .func (PySem.W.fnOf "clash" "clash" (defArgs s_clash) (defBody s_clash) (defScope s_clash) .none kV_clash dc_clash pm_clash an_clash cd_clash ct_clash), sl_clash⟩)
    (c_clash : PySem.W.codeIn K cd_clash "clash" = true)
    (k_clash : PySem.W.keepIn K (.ref f_clash) = true)
    (a_check_bound : PySem.W.nsIn K mainGlobals "check_bound" = some (some (.ref f_check_bound)))
    (l_check_bound : K.lookup f_check_bound = some ⟨oc_check_bound, od_check_bound, .func (PySem.W.fnOf "check_bound" "check_bound" (defArgs s_check_bound) (defBody s_check_bound) (defScope s_check_bound) .none kV_check_bound dc_check_bound pm_check_bound an_check_bound cd_check_bound ct_check_bound), sl_check_bound⟩)
    (c_check_bound : PySem.W.codeIn K cd_check_bound "check_bound" = true)
    (k_check_bound : PySem.W.keepIn K (.ref f_check_bound) = true)
    (a_numbers_in : PySem.W.nsIn K mainGlobals "numbers_in" = some (some (.ref f_numbers_in)))
    (l_numbers_in : K.lookup f_numbers_in = some ⟨oc_numbers_in, od_numbers_in, .func (PySem.W.fnOf "numbers_in" "numbers_in" (defArgs s_numbers_in) (defBody s_numbers_in) (defScope s_numbers_in) .none kV_numbers_in dc_numbers_in pm_numbers_in an_numbers_in cd_numbers_in ct_numbers_in), sl_numbers_in⟩)
    (c_numbers_in : PySem.W.codeIn K cd_numbers_in "numbers_in" = true)
    (k_numbers_in : PySem.W.keepIn K (.ref f_numbers_in) = true)
    (a_numbers_with : PySem.W.nsIn K mainGlobals "numbers_with" = some (some (.ref f_numbers_with)))
    (l_numbers_with : K.lookup f_numbers_with = some ⟨oc_numbers_with, od_numbers_with, .func (PySem.W.fnOf "numbers_with" "numbers_with" (defArgs s_numbers_with) (defBody s_numbers_with) (defScope s_numbers_with) .none kV_numbers_with dc_numbers_with pm_numbers_with an_numbers_with cd_numbers_with ct_numbers_with), sl_numbers_with⟩)
    (c_numbers_with : PySem.W.codeIn K cd_numbers_with "numbers_with" = true)
    (k_numbers_with : PySem.W.keepIn K (.ref f_numbers_with) = true)
    (a_law_box : PySem.W.nsIn K mainGlobals "_law_box" = some (some (.ref f_law_box)))
    (l_law_box : K.lookup f_law_box = some ⟨oc_law_box, od_law_box, .func (PySem.W.fnOf "_law_box" "_law_box" (defArgs s_law_box) (defBody s_law_box) (defScope s_law_box) .none kV_law_box dc_law_box pm_law_box an_law_box cd_law_box ct_law_box), sl_law_box⟩)
    (c_law_box : PySem.W.codeIn K cd_law_box "_law_box" = true)
    (k_law_box : PySem.W.keepIn K (.ref f_law_box) = true)
    (a_law_take : PySem.W.nsIn K mainGlobals "_law_take" = some (some (.ref f_law_take)))
    (l_law_take : K.lookup f_law_take = some ⟨oc_law_take, od_law_take, .func (PySem.W.fnOf "_law_take" "_law_take" (defArgs s_law_take) (defBody s_law_take) (defScope s_law_take) .none kV_law_take dc_law_take pm_law_take an_law_take cd_law_take ct_law_take), sl_law_take⟩)
    (c_law_take : PySem.W.codeIn K cd_law_take "_law_take" = true)
    (k_law_take : PySem.W.keepIn K (.ref f_law_take) = true)
    (a_law_cell : PySem.W.nsIn K mainGlobals "_law_cell" = some (some (.ref f_law_cell)))
    (l_law_cell : K.lookup f_law_cell = some ⟨oc_law_cell, od_law_cell, .func (PySem.W.fnOf "_law_cell" "_law_cell" (defArgs s_law_cell) (defBody s_law_cell) (defScope s_law_cell) .none kV_law_cell dc_law_cell pm_law_cell an_law_cell cd_law_cell ct_law_cell), sl_law_cell⟩)
    (c_law_cell : PySem.W.codeIn K cd_law_cell "_law_cell" = true)
    (k_law_cell : PySem.W.keepIn K (.ref f_law_cell) = true)
    (a_law_common : PySem.W.nsIn K mainGlobals "_law_common" = some (some (.ref f_law_common)))
    (l_law_common : K.lookup f_law_common = some ⟨oc_law_common, od_law_common, .func (PySem.W.fnOf "_law_common" "_law_common" (defArgs s_law_common) (defBody s_law_common) (defScope s_law_common) .none kV_law_common dc_law_common pm_law_common an_law_common cd_law_common ct_law_common), sl_law_common⟩)
    (c_law_common : PySem.W.codeIn K cd_law_common "_law_common" = true)
    (k_law_common : PySem.W.keepIn K (.ref f_law_common) = true)
    (a_law_same : PySem.W.nsIn K mainGlobals "_law_same" = some (some (.ref f_law_same)))
    (l_law_same : K.lookup f_law_same = some ⟨oc_law_same, od_law_same, .func (PySem.W.fnOf "_law_same" "_law_same" (defArgs s_law_same) (defBody s_law_same) (defScope s_law_same) .none kV_law_same dc_law_same pm_law_same an_law_same cd_law_same ct_law_same), sl_law_same⟩)
    (c_law_same : PySem.W.codeIn K cd_law_same "_law_same" = true)
    (k_law_same : PySem.W.keepIn K (.ref f_law_same) = true)
    (a_law_rests : PySem.W.nsIn K mainGlobals "_law_rests" = some (some (.ref f_law_rests)))
    (l_law_rests : K.lookup f_law_rests = some ⟨oc_law_rests, od_law_rests, .func (PySem.W.fnOf "_law_rests" "_law_rests" (defArgs s_law_rests) (defBody s_law_rests) (defScope s_law_rests) .none kV_law_rests dc_law_rests pm_law_rests an_law_rests cd_law_rests ct_law_rests), sl_law_rests⟩)
    (c_law_rests : PySem.W.codeIn K cd_law_rests "_law_rests" = true)
    (k_law_rests : PySem.W.keepIn K (.ref f_law_rests) = true)
    (a_law_do_meet : PySem.W.nsIn K mainGlobals "_law_do_meet" = some (some (.ref f_law_do_meet)))
    (l_law_do_meet : K.lookup f_law_do_meet = some ⟨oc_law_do_meet, od_law_do_meet, .func (PySem.W.fnOf "_law_do_meet" "_law_do_meet" (defArgs s_law_do_meet) (defBody s_law_do_meet) (defScope s_law_do_meet) .none kV_law_do_meet dc_law_do_meet pm_law_do_meet an_law_do_meet cd_law_do_meet ct_law_do_meet), sl_law_do_meet⟩)
    (c_law_do_meet : PySem.W.codeIn K cd_law_do_meet "_law_do_meet" = true)
    (k_law_do_meet : PySem.W.keepIn K (.ref f_law_do_meet) = true)
    (a_law_share : PySem.W.nsIn K mainGlobals "_law_share" = some (some (.ref f_law_share)))
    (l_law_share : K.lookup f_law_share = some ⟨oc_law_share, od_law_share, .func (PySem.W.fnOf "_law_share" "_law_share" (defArgs s_law_share) (defBody s_law_share) (defScope s_law_share) .none kV_law_share dc_law_share pm_law_share an_law_share cd_law_share ct_law_share), sl_law_share⟩)
    (c_law_share : PySem.W.codeIn K cd_law_share "_law_share" = true)
    (k_law_share : PySem.W.keepIn K (.ref f_law_share) = true)
    (a_law_step : PySem.W.nsIn K mainGlobals "_law_step" = some (some (.ref f_law_step)))
    (l_law_step : K.lookup f_law_step = some ⟨oc_law_step, od_law_step, .func (PySem.W.fnOf "_law_step" "_law_step" (defArgs s_law_step) (defBody s_law_step) (defScope s_law_step) .none kV_law_step dc_law_step pm_law_step an_law_step cd_law_step ct_law_step), sl_law_step⟩)
    (c_law_step : PySem.W.codeIn K cd_law_step "_law_step" = true)
    (k_law_step : PySem.W.keepIn K (.ref f_law_step) = true)
    (a_law_joined : PySem.W.nsIn K mainGlobals "_law_joined" = some (some (.ref f_law_joined)))
    (l_law_joined : K.lookup f_law_joined = some ⟨oc_law_joined, od_law_joined, .func (PySem.W.fnOf "_law_joined" "_law_joined" (defArgs s_law_joined) (defBody s_law_joined) (defScope s_law_joined) .none kV_law_joined dc_law_joined pm_law_joined an_law_joined cd_law_joined ct_law_joined), sl_law_joined⟩)
    (c_law_joined : PySem.W.codeIn K cd_law_joined "_law_joined" = true)
    (k_law_joined : PySem.W.keepIn K (.ref f_law_joined) = true)
    (a_law_clash : PySem.W.nsIn K mainGlobals "_law_clash" = some (some (.ref f_law_clash)))
    (l_law_clash : K.lookup f_law_clash = some ⟨oc_law_clash, od_law_clash, .func (PySem.W.fnOf "_law_clash" "_law_clash" (defArgs s_law_clash) (defBody s_law_clash) (defScope s_law_clash) .none kV_law_clash dc_law_clash pm_law_clash an_law_clash cd_law_clash ct_law_clash), sl_law_clash⟩)
    (c_law_clash : PySem.W.codeIn K cd_law_clash "_law_clash" = true)
    (k_law_clash : PySem.W.keepIn K (.ref f_law_clash) = true)
    (a_law_still : PySem.W.nsIn K mainGlobals "_law_still" = some (some (.ref f_law_still)))
    (l_law_still : K.lookup f_law_still = some ⟨oc_law_still, od_law_still, .func (PySem.W.fnOf "_law_still" "_law_still" (defArgs s_law_still) (defBody s_law_still) (defScope s_law_still) .none kV_law_still dc_law_still pm_law_still an_law_still cd_law_still ct_law_still), sl_law_still⟩)
    (c_law_still : PySem.W.codeIn K cd_law_still "_law_still" = true)
    (k_law_still : PySem.W.keepIn K (.ref f_law_still) = true)
    (a_law_call : PySem.W.nsIn K mainGlobals "_law_call" = some (some (.ref f_law_call)))
    (l_law_call : K.lookup f_law_call = some ⟨oc_law_call, od_law_call, .func (PySem.W.fnOf "_law_call" "_law_call" (defArgs s_law_call) (defBody s_law_call) (defScope s_law_call) .none kV_law_call dc_law_call pm_law_call an_law_call cd_law_call ct_law_call), sl_law_call⟩)
    (c_law_call : PySem.W.codeIn K cd_law_call "_law_call" = true)
    (k_law_call : PySem.W.keepIn K (.ref f_law_call) = true)
    (a_law_numbers : PySem.W.nsIn K mainGlobals "_law_numbers" = some (some (.ref f_law_numbers)))
    (l_law_numbers : K.lookup f_law_numbers = some ⟨oc_law_numbers, od_law_numbers, .func (PySem.W.fnOf "_law_numbers" "_law_numbers" (defArgs s_law_numbers) (defBody s_law_numbers) (defScope s_law_numbers) .none kV_law_numbers dc_law_numbers pm_law_numbers an_law_numbers cd_law_numbers ct_law_numbers), sl_law_numbers⟩)
    (c_law_numbers : PySem.W.codeIn K cd_law_numbers "_law_numbers" = true)
    (k_law_numbers : PySem.W.keepIn K (.ref f_law_numbers) = true)
    (a_law_refused_right : PySem.W.nsIn K mainGlobals "_law_refused_right" = some (some (.ref f_law_refused_right)))
    (l_law_refused_right : K.lookup f_law_refused_right = some ⟨oc_law_refused_right, od_law_refused_right, .func (PySem.W.fnOf "_law_refused_right" "_law_refused_right" (defArgs s_law_refused_right) (defBody s_law_refused_right) (defScope s_law_refused_right) .none kV_law_refused_right dc_law_refused_right pm_law_refused_right an_law_refused_right cd_law_refused_right ct_law_refused_right), sl_law_refused_right⟩)
    (c_law_refused_right : PySem.W.codeIn K cd_law_refused_right "_law_refused_right" = true)
    (k_law_refused_right : PySem.W.keepIn K (.ref f_law_refused_right) = true)
    (a_law_scene_right : PySem.W.nsIn K mainGlobals "_law_scene_right" = some (some (.ref f_law_scene_right)))
    (l_law_scene_right : K.lookup f_law_scene_right = some ⟨oc_law_scene_right, od_law_scene_right, .func (PySem.W.fnOf "_law_scene_right" "_law_scene_right" (defArgs s_law_scene_right) (defBody s_law_scene_right) (defScope s_law_scene_right) .none kV_law_scene_right dc_law_scene_right pm_law_scene_right an_law_scene_right cd_law_scene_right ct_law_scene_right), sl_law_scene_right⟩)
    (c_law_scene_right : PySem.W.codeIn K cd_law_scene_right "_law_scene_right" = true)
    (k_law_scene_right : PySem.W.keepIn K (.ref f_law_scene_right) = true)
    (a_law : PySem.W.nsIn K mainGlobals "law" = some (some (.ref f_law)))
    (l_law : K.lookup f_law = some ⟨oc_law, od_law, .func (PySem.W.fnOf "law" "law" (defArgs s_law) (defBody s_law) (defScope s_law) .none kV_law dc_law pm_law an_law cd_law ct_law), sl_law⟩)
    (c_law : PySem.W.codeIn K cd_law "law" = true)
    (k_law : PySem.W.keepIn K (.ref f_law) = true)
    (z_isinstance : PySem.W.nsIn K mainGlobals "isinstance" = some none)
    (z_int : PySem.W.nsIn K mainGlobals "int" = some none)
    (z_bool : PySem.W.nsIn K mainGlobals "bool" = some none)
    (z_str : PySem.W.nsIn K mainGlobals "str" = some none)
    (z_list : PySem.W.nsIn K mainGlobals "list" = some none)
    (z_tuple : PySem.W.nsIn K mainGlobals "tuple" = some none)
    (z_dict : PySem.W.nsIn K mainGlobals "dict" = some none)
    (z_len : PySem.W.nsIn K mainGlobals "len" = some none)
    (z_sum : PySem.W.nsIn K mainGlobals "sum" = some none)
    (z_zip : PySem.W.nsIn K mainGlobals "zip" = some none)
    (z_range : PySem.W.nsIn K mainGlobals "range" = some none)
    (z_abs : PySem.W.nsIn K mainGlobals "abs" = some none)
    (z_max : PySem.W.nsIn K mainGlobals "max" = some none)
    (z_min : PySem.W.nsIn K mainGlobals "min" = some none)
    (g_MOST_RESTS : PySem.W.nsIn K mainGlobals "MOST_RESTS" = some (some (.int 40 tk_MOST_RESTS)))
    (g_MOST_TOLD : PySem.W.nsIn K mainGlobals "MOST_TOLD" = some (some (.int 1000 tk_MOST_TOLD)))
    (aW : PySem.W.nsIn K mainGlobals "WrapError" = some (some (.ref D)))
    (xW : K.lookup D = some (excClassObj nmD qD D ND bsD PySem.WrX.veTail true snD subD abD colD ddD w0 w1 w2 w3 w5 "ValueError.__new__"))
    (iW : PySem.W.findIn K (.ref D) "__init__" = some (some (.ref fI)))
    (lI : K.lookup fI = some ⟨iOc, iod, .func (PySem.W.ksFn "__init__" "WrapError.__init__" (PySem.WrX.iA p1 p2 p3) (PySem.WrX.iB q1 q2 q3 q4 q5 q6 q7 q8 q9 q10) PySem.WrX.iS (.ref Td) ikV idoc ipm ian (.ref cda) ict cc), iosl⟩)
    (cI : PySem.W.codeIn K (.ref cda) "WrapError.__init__" = true)
    (lcd : K.lookup cda = some ⟨ccl, cdd, .fields vs, ccs⟩)
    (hvs : vs[2]? = some (.str file tf))
    (hfile : ((P.main.file : Str) == file) = true)
    (lcc : K.lookup cc = some ⟨cl, cld, .cell (some (.ref D)), csl⟩)
    (lT : K.lookup Td = some ⟨tc, td, .seq #[.none] nT, tsl⟩)
    (hline : (q3.endLine == q5.line) = true)
    (mS : PySem.W.nsIn K mainGlobals "super" = some none)
    (top_ : (P.main.scope.names.lookup ("super" : Str)).isSome = false)
    (any_ : PySem.W.nsIn K cStatics "thirdparty.any" = some none)
    (a_TooMany : PySem.W.nsIn K mainGlobals "TooMany" = some (some (.ref C_TooMany)))
    (x_TooMany : K.lookup C_TooMany = some (excClassObj nm_TooMany q_TooMany C_TooMany N_TooMany bs_TooMany (.ref D :: PySem.WrX.veTail) true sn_TooMany su_TooMany ab_TooMany col_TooMany dd_TooMany u0_TooMany u1_TooMany u2_TooMany u3_TooMany u5_TooMany "ValueError.__new__"))
    (sa_TooMany : PySem.W.findIn K (.ref C_TooMany) "__setattr__" = some (some (.builtin "object.__setattr__")))
    (nn_TooMany : PySem.W.findIn K (.ref C_TooMany) "given" = some none)
    (ii_TooMany : PySem.W.findIn K (.ref C_TooMany) "__init__" = some (some (.ref J_TooMany)))
    (kc_TooMany : PySem.W.keepIn K (.ref C_TooMany) = true)
    (se_TooMany : PySem.W.subIn K (.ref C_TooMany) (.type "BaseException") = some true)
    (sv_TooMany : PySem.W.subIn K (.ref C_TooMany) (.type "ValueError") = some true)
    (ty_TooMany : PySem.W.typeIn K (.ref C_TooMany) = some (.type "type"))
    (ne_TooMany : C_TooMany ≠ D)
    (ga_TooMany : PySem.W.findIn K (.ref C_TooMany) "__getattribute__" = some (some (.builtin "BaseException.__getattribute__")))
    (gg_TooMany : PySem.W.findIn K (.ref C_TooMany) "__getattr__" = some none)
    (hd_TooMany : PySem.W.hasDictIn K C_TooMany = true)
    (ic_TooMany : PySem.W.isClsIn K C_TooMany = true)
    (lJ_TooMany : K.lookup J_TooMany = some ⟨jOc_TooMany, jod_TooMany, .func (PySem.W.ksFn "__init__" "TooMany.__init__" (PySem.WrX.jA ja1_TooMany ja2_TooMany) (PySem.WrX.jB jb1_TooMany jb2_TooMany jb3_TooMany jb4_TooMany jb5_TooMany jb6_TooMany jb7_TooMany jb8_TooMany jb9_TooMany jb10_TooMany) PySem.WrX.jS .none jkV_TooMany jdoc_TooMany jpm_TooMany jan_TooMany (.ref Jcd_TooMany) jct_TooMany Jcc_TooMany), josl_TooMany⟩)
    (cJ_TooMany : PySem.W.codeIn K (.ref Jcd_TooMany) "TooMany.__init__" = true)
    (lcdJ_TooMany : K.lookup Jcd_TooMany = some ⟨jccl_TooMany, jcdd_TooMany, .fields jvs_TooMany, jccs_TooMany⟩)
    (hvsJ_TooMany : jvs_TooMany[2]? = some (.str jfile_TooMany jtf_TooMany))
    (hfileJ_TooMany : ((P.main.file : Str) == jfile_TooMany) = true)
    (lccJ_TooMany : K.lookup Jcc_TooMany = some ⟨jcl_TooMany, jcld_TooMany, .cell (some (.ref C_TooMany)), jcsl_TooMany⟩)
    (hlineJ_TooMany : (jb3_TooMany.endLine == jb5_TooMany.line) = true)
    (nc_TooMany : PySem.W.findIn K (.ref C_TooMany) "count" = some none)
    (al_TooMany : PySem.W.alongIn K "__init__" (.ref D :: PySem.WrX.veTail) = some (some (.ref fI)))
    (tJ_TooMany : PySem.W.typeIn K (.ref J_TooMany) = some (.type "function"))
    (fn_TooMany : PySem.W.fnIn K fI = true)
    (a_InvalidRests : PySem.W.nsIn K mainGlobals "InvalidRests" = some (some (.ref C_InvalidRests)))
    (x_InvalidRests : K.lookup C_InvalidRests = some (excClassObj nm_InvalidRests q_InvalidRests C_InvalidRests N_InvalidRests bs_InvalidRests (.ref D :: PySem.WrX.veTail) true sn_InvalidRests su_InvalidRests ab_InvalidRests col_InvalidRests dd_InvalidRests u0_InvalidRests u1_InvalidRests u2_InvalidRests u3_InvalidRests u5_InvalidRests "ValueError.__new__"))
    (sa_InvalidRests : PySem.W.findIn K (.ref C_InvalidRests) "__setattr__" = some (some (.builtin "object.__setattr__")))
    (nn_InvalidRests : PySem.W.findIn K (.ref C_InvalidRests) "given" = some none)
    (ii_InvalidRests : PySem.W.findIn K (.ref C_InvalidRests) "__init__" = some (some (.ref fI)))
    (kc_InvalidRests : PySem.W.keepIn K (.ref C_InvalidRests) = true)
    (se_InvalidRests : PySem.W.subIn K (.ref C_InvalidRests) (.type "BaseException") = some true)
    (sv_InvalidRests : PySem.W.subIn K (.ref C_InvalidRests) (.type "ValueError") = some true)
    (ty_InvalidRests : PySem.W.typeIn K (.ref C_InvalidRests) = some (.type "type"))
    (ne_InvalidRests : C_InvalidRests ≠ D)
    (ga_InvalidRests : PySem.W.findIn K (.ref C_InvalidRests) "__getattribute__" = some (some (.builtin "BaseException.__getattribute__")))
    (gg_InvalidRests : PySem.W.findIn K (.ref C_InvalidRests) "__getattr__" = some none)
    (hd_InvalidRests : PySem.W.hasDictIn K C_InvalidRests = true)
    (ic_InvalidRests : PySem.W.isClsIn K C_InvalidRests = true)
    (a_InvalidBound : PySem.W.nsIn K mainGlobals "InvalidBound" = some (some (.ref C_InvalidBound)))
    (x_InvalidBound : K.lookup C_InvalidBound = some (excClassObj nm_InvalidBound q_InvalidBound C_InvalidBound N_InvalidBound bs_InvalidBound (.ref D :: PySem.WrX.veTail) true sn_InvalidBound su_InvalidBound ab_InvalidBound col_InvalidBound dd_InvalidBound u0_InvalidBound u1_InvalidBound u2_InvalidBound u3_InvalidBound u5_InvalidBound "ValueError.__new__"))
    (sa_InvalidBound : PySem.W.findIn K (.ref C_InvalidBound) "__setattr__" = some (some (.builtin "object.__setattr__")))
    (nn_InvalidBound : PySem.W.findIn K (.ref C_InvalidBound) "given" = some none)
    (ii_InvalidBound : PySem.W.findIn K (.ref C_InvalidBound) "__init__" = some (some (.ref fI)))
    (kc_InvalidBound : PySem.W.keepIn K (.ref C_InvalidBound) = true)
    (se_InvalidBound : PySem.W.subIn K (.ref C_InvalidBound) (.type "BaseException") = some true)
    (sv_InvalidBound : PySem.W.subIn K (.ref C_InvalidBound) (.type "ValueError") = some true)
    (ty_InvalidBound : PySem.W.typeIn K (.ref C_InvalidBound) = some (.type "type"))
    (ne_InvalidBound : C_InvalidBound ≠ D)
    (ga_InvalidBound : PySem.W.findIn K (.ref C_InvalidBound) "__getattribute__" = some (some (.builtin "BaseException.__getattribute__")))
    (gg_InvalidBound : PySem.W.findIn K (.ref C_InvalidBound) "__getattr__" = some none)
    (hd_InvalidBound : PySem.W.hasDictIn K C_InvalidBound = true)
    (ic_InvalidBound : PySem.W.isClsIn K C_InvalidBound = true)
    (tI : PySem.W.typeIn K (.ref fI) = some (.type "function"))
    (s_TooMany_TooMany : PySem.W.subIn K (.ref C_TooMany) (.ref C_TooMany) = some true)
    (s_TooMany_InvalidRests : PySem.W.subIn K (.ref C_TooMany) (.ref C_InvalidRests) = some false)
    (s_TooMany_InvalidBound : PySem.W.subIn K (.ref C_TooMany) (.ref C_InvalidBound) = some false)
    (s_InvalidRests_TooMany : PySem.W.subIn K (.ref C_InvalidRests) (.ref C_TooMany) = some false)
    (s_InvalidRests_InvalidRests : PySem.W.subIn K (.ref C_InvalidRests) (.ref C_InvalidRests) = some true)
    (s_InvalidRests_InvalidBound : PySem.W.subIn K (.ref C_InvalidRests) (.ref C_InvalidBound) = some false)
    (s_InvalidBound_TooMany : PySem.W.subIn K (.ref C_InvalidBound) (.ref C_TooMany) = some false)
    (s_InvalidBound_InvalidRests : PySem.W.subIn K (.ref C_InvalidBound) (.ref C_InvalidRests) = some false)
    (s_InvalidBound_InvalidBound : PySem.W.subIn K (.ref C_InvalidBound) (.ref C_InvalidBound) = some true) :
    ∃ fd : FuncData, (∀ (s : Shared) (v : Value), BindsTo s fd ⟨[v], []⟩ [("script", v)]) ∧ ∀ base : Heap, K.In base → base.Ns mainGlobals mg → FnOk P w K mg base (L2.CX P w) 15 fa fd ["script"] (sp_law K) := by
  have e := hfa.symm.trans (PySem.W.mg_of X G a_law)
  cases e
  have F_is_whole := fun_mk (st := s_is_whole) l_is_whole c_is_whole k_is_whole
  have b_is_whole := F_is_whole.binds (ps := ["value"]) fun _ _ _ _ _ _ us hl => match us, hl with | [_], _ => rfl
  have F_is_list := fun_mk (st := s_is_list) l_is_list c_is_list k_is_list
  have b_is_list := F_is_list.binds (ps := ["value"]) fun _ _ _ _ _ _ us hl => match us, hl with | [_], _ => rfl
  have F_shared := fun_mk (st := s_shared) l_shared c_shared k_shared
  have b_shared := F_shared.binds (ps := ["one", "other"]) fun _ _ _ _ _ _ us hl => match us, hl with | [_, _], _ => rfl
  have F_are_rests := fun_mk (st := s_are_rests) l_are_rests c_are_rests k_are_rests
  have b_are_rests := F_are_rests.binds (ps := ["value"]) fun _ _ _ _ _ _ us hl => match us, hl with | [_], _ => rfl
  have F_check_rests := fun_mk (st := s_check_rests) l_check_rests c_check_rests k_check_rests
  have b_check_rests := F_check_rests.binds (ps := ["rests"]) fun _ _ _ _ _ _ us hl => match us, hl with | [_], _ => rfl
  have F_joined_two := fun_mk (st := s_joined_two) l_joined_two c_joined_two k_joined_two
  have b_joined_two := F_joined_two.binds (ps := ["one", "other"]) fun _ _ _ _ _ _ us hl => match us, hl with | [_, _], _ => rfl
  have F_joined_in := fun_mk (st := s_joined_in) l_joined_in c_joined_in k_joined_in
  have b_joined_in := F_joined_in.binds (ps := ["rests"]) fun _ _ _ _ _ _ us hl => match us, hl with | [_], _ => rfl
  have F_joined := fun_mk (st := s_joined) l_joined c_joined k_joined
  have b_joined := F_joined.binds (ps := ["rests"]) fun _ _ _ _ _ _ us hl => match us, hl with | [_], _ => rfl
  have F_clash := fun_mk (st := s_clash) l_clash c_clash k_clash
  have b_clash := F_clash.binds (ps := ["rests"]) fun _ _ _ _ _ _ us hl => match us, hl with | [_], _ => rfl
  have F_check_bound := fun_mk (st := s_check_bound) l_check_bound c_check_bound k_check_bound
  have b_check_bound := F_check_bound.binds (ps := ["bound"]) fun _ _ _ _ _ _ us hl => match us, hl with | [_], _ => rfl
  have F_numbers_in := fun_mk (st := s_numbers_in) l_numbers_in c_numbers_in k_numbers_in
  have b_numbers_in := F_numbers_in.binds (ps := ["found", "bound"]) fun _ _ _ _ _ _ us hl => match us, hl with | [_, _], _ => rfl
  have F_numbers_with := fun_mk (st := s_numbers_with) l_numbers_with c_numbers_with k_numbers_with
  have b_numbers_with := F_numbers_with.binds (ps := ["rests", "bound"]) fun _ _ _ _ _ _ us hl => match us, hl with | [_, _], _ => rfl
  have F_law_box := fun_mk (st := s_law_box) l_law_box c_law_box k_law_box
  have b_law_box := F_law_box.binds (ps := ["great"]) fun _ _ _ _ _ _ us hl => match us, hl with | [_], _ => rfl
  have F_law_take := fun_mk (st := s_law_take) l_law_take c_law_take k_law_take
  have b_law_take := F_law_take.binds (ps := ["box", "many"]) fun _ _ _ _ _ _ us hl => match us, hl with | [_, _], _ => rfl
  have F_law_cell := fun_mk (st := s_law_cell) l_law_cell c_law_cell k_law_cell
  have b_law_cell := F_law_cell.binds (ps := ["script", "k"]) fun _ _ _ _ _ _ us hl => match us, hl with | [_, _], _ => rfl
  have F_law_common := fun_mk (st := s_law_common) l_law_common c_law_common k_law_common
  have b_law_common := F_law_common.binds (ps := ["a", "b"]) fun _ _ _ _ _ _ us hl => match us, hl with | [_, _], _ => rfl
  have F_law_same := fun_mk (st := s_law_same) l_law_same c_law_same k_law_same
  have b_law_same := F_law_same.binds (ps := ["told", "due"]) fun _ _ _ _ _ _ us hl => match us, hl with | [_, _], _ => rfl
  have F_law_rests := fun_mk (st := s_law_rests) l_law_rests c_law_rests k_law_rests
  have b_law_rests := F_law_rests.binds (ps := ["box"]) fun _ _ _ _ _ _ us hl => match us, hl with | [_], _ => rfl
  have F_law_do_meet := fun_mk (st := s_law_do_meet) l_law_do_meet c_law_do_meet k_law_do_meet
  have b_law_do_meet := F_law_do_meet.binds (ps := ["one", "other"]) fun _ _ _ _ _ _ us hl => match us, hl with | [_, _], _ => rfl
  have F_law_share := fun_mk (st := s_law_share) l_law_share c_law_share k_law_share
  have b_law_share := F_law_share.binds (ps := ["one", "other"]) fun _ _ _ _ _ _ us hl => match us, hl with | [_, _], _ => rfl
  have F_law_step := fun_mk (st := s_law_step) l_law_step c_law_step k_law_step
  have b_law_step := F_law_step.binds (ps := ["one", "other"]) fun _ _ _ _ _ _ us hl => match us, hl with | [_, _], _ => rfl
  have F_law_joined := fun_mk (st := s_law_joined) l_law_joined c_law_joined k_law_joined
  have b_law_joined := F_law_joined.binds (ps := ["rests"]) fun _ _ _ _ _ _ us hl => match us, hl with | [_], _ => rfl
  have F_law_clash := fun_mk (st := s_law_clash) l_law_clash c_law_clash k_law_clash
  have b_law_clash := F_law_clash.binds (ps := ["rests"]) fun _ _ _ _ _ _ us hl => match us, hl with | [_], _ => rfl
  have F_law_still := fun_mk (st := s_law_still) l_law_still c_law_still k_law_still
  have b_law_still := F_law_still.binds (ps := ["told", "due"]) fun _ _ _ _ _ _ us hl => match us, hl with | [_, _], _ => rfl
  have F_law_call := fun_mk (st := s_law_call) l_law_call c_law_call k_law_call
  have b_law_call := F_law_call.binds (ps := ["which", "a", "named"]) fun _ _ _ _ _ _ us hl => match us, hl with | [_, _, _], _ => rfl
  have F_law_numbers := fun_mk (st := s_law_numbers) l_law_numbers c_law_numbers k_law_numbers
  have b_law_numbers := F_law_numbers.binds (ps := ["found", "bound"]) fun _ _ _ _ _ _ us hl => match us, hl with | [_, _], _ => rfl
  have F_law_refused_right := fun_mk (st := s_law_refused_right) l_law_refused_right c_law_refused_right k_law_refused_right
  have b_law_refused_right := F_law_refused_right.binds (ps := ["box", "rests", "named"]) fun _ _ _ _ _ _ us hl => match us, hl with | [_, _, _], _ => rfl
  have F_law_scene_right := fun_mk (st := s_law_scene_right) l_law_scene_right c_law_scene_right k_law_scene_right
  have b_law_scene_right := F_law_scene_right.binds (ps := ["box", "named"]) fun _ _ _ _ _ _ us hl => match us, hl with | [_, _], _ => rfl
  have F_law := fun_mk (st := s_law) l_law c_law k_law
  have b_law := F_law.binds (ps := ["script"]) fun _ _ _ _ _ _ us hl => match us, hl with | [_], _ => rfl
  have B_numbers_with := F_numbers_with.kbR (ps := ["rests", "bound"]) (ks := ["bound", "rests"]) fun _ _ _ _ _ _ us hl => match us, hl with | [_, _], _ => rfl
  have B_joined := F_joined.kb (ps := ["rests"]) (ks := ["rests"]) fun _ _ _ _ _ _ us hl => match us, hl with | [_], _ => rfl
  have B_clash := F_clash.kb (ps := ["rests"]) (ks := ["rests"]) fun _ _ _ _ _ _ us hl => match us, hl with | [_], _ => rfl
  let T : Tx P K mg := {
    a_is_whole := f_is_whole, f_is_whole := _, F_is_whole := F_is_whole, D_is_whole := ⟨PySem.W.mg_of X G a_is_whole, k_is_whole, b_is_whole⟩,
    a_is_list := f_is_list, f_is_list := _, F_is_list := F_is_list, D_is_list := ⟨PySem.W.mg_of X G a_is_list, k_is_list, b_is_list⟩,
    a_shared := f_shared, f_shared := _, F_shared := F_shared, D_shared := ⟨PySem.W.mg_of X G a_shared, k_shared, b_shared⟩,
    a_are_rests := f_are_rests, f_are_rests := _, F_are_rests := F_are_rests, D_are_rests := ⟨PySem.W.mg_of X G a_are_rests, k_are_rests, b_are_rests⟩,
    a_check_rests := f_check_rests, f_check_rests := _, F_check_rests := F_check_rests, D_check_rests := ⟨PySem.W.mg_of X G a_check_rests, k_check_rests, b_check_rests⟩,
    a_joined_two := f_joined_two, f_joined_two := _, F_joined_two := F_joined_two, D_joined_two := ⟨PySem.W.mg_of X G a_joined_two, k_joined_two, b_joined_two⟩,
    a_joined_in := f_joined_in, f_joined_in := _, F_joined_in := F_joined_in, D_joined_in := ⟨PySem.W.mg_of X G a_joined_in, k_joined_in, b_joined_in⟩,
    a_joined := f_joined, f_joined := _, F_joined := F_joined, D_joined := ⟨PySem.W.mg_of X G a_joined, k_joined, b_joined⟩,
    a_clash := f_clash, f_clash := _, F_clash := F_clash, D_clash := ⟨PySem.W.mg_of X G a_clash, k_clash, b_clash⟩,
    a_check_bound := f_check_bound, f_check_bound := _, F_check_bound := F_check_bound, D_check_bound := ⟨PySem.W.mg_of X G a_check_bound, k_check_bound, b_check_bound⟩,
    a_numbers_in := f_numbers_in, f_numbers_in := _, F_numbers_in := F_numbers_in, D_numbers_in := ⟨PySem.W.mg_of X G a_numbers_in, k_numbers_in, b_numbers_in⟩,
    a_numbers_with := f_numbers_with, f_numbers_with := _, F_numbers_with := F_numbers_with, D_numbers_with := ⟨PySem.W.mg_of X G a_numbers_with, k_numbers_with, b_numbers_with⟩,
    a_law_box := f_law_box, f_law_box := _, F_law_box := F_law_box, D_law_box := ⟨PySem.W.mg_of X G a_law_box, k_law_box, b_law_box⟩,
    a_law_take := f_law_take, f_law_take := _, F_law_take := F_law_take, D_law_take := ⟨PySem.W.mg_of X G a_law_take, k_law_take, b_law_take⟩,
    a_law_cell := f_law_cell, f_law_cell := _, F_law_cell := F_law_cell, D_law_cell := ⟨PySem.W.mg_of X G a_law_cell, k_law_cell, b_law_cell⟩,
    a_law_common := f_law_common, f_law_common := _, F_law_common := F_law_common, D_law_common := ⟨PySem.W.mg_of X G a_law_common, k_law_common, b_law_common⟩,
    a_law_same := f_law_same, f_law_same := _, F_law_same := F_law_same, D_law_same := ⟨PySem.W.mg_of X G a_law_same, k_law_same, b_law_same⟩,
    a_law_rests := f_law_rests, f_law_rests := _, F_law_rests := F_law_rests, D_law_rests := ⟨PySem.W.mg_of X G a_law_rests, k_law_rests, b_law_rests⟩,
    a_law_do_meet := f_law_do_meet, f_law_do_meet := _, F_law_do_meet := F_law_do_meet, D_law_do_meet := ⟨PySem.W.mg_of X G a_law_do_meet, k_law_do_meet, b_law_do_meet⟩,
    a_law_share := f_law_share, f_law_share := _, F_law_share := F_law_share, D_law_share := ⟨PySem.W.mg_of X G a_law_share, k_law_share, b_law_share⟩,
    a_law_step := f_law_step, f_law_step := _, F_law_step := F_law_step, D_law_step := ⟨PySem.W.mg_of X G a_law_step, k_law_step, b_law_step⟩,
    a_law_joined := f_law_joined, f_law_joined := _, F_law_joined := F_law_joined, D_law_joined := ⟨PySem.W.mg_of X G a_law_joined, k_law_joined, b_law_joined⟩,
    a_law_clash := f_law_clash, f_law_clash := _, F_law_clash := F_law_clash, D_law_clash := ⟨PySem.W.mg_of X G a_law_clash, k_law_clash, b_law_clash⟩,
    a_law_still := f_law_still, f_law_still := _, F_law_still := F_law_still, D_law_still := ⟨PySem.W.mg_of X G a_law_still, k_law_still, b_law_still⟩,
    a_law_call := f_law_call, f_law_call := _, F_law_call := F_law_call, D_law_call := ⟨PySem.W.mg_of X G a_law_call, k_law_call, b_law_call⟩,
    a_law_numbers := f_law_numbers, f_law_numbers := _, F_law_numbers := F_law_numbers, D_law_numbers := ⟨PySem.W.mg_of X G a_law_numbers, k_law_numbers, b_law_numbers⟩,
    a_law_refused_right := f_law_refused_right, f_law_refused_right := _, F_law_refused_right := F_law_refused_right, D_law_refused_right := ⟨PySem.W.mg_of X G a_law_refused_right, k_law_refused_right, b_law_refused_right⟩,
    a_law_scene_right := f_law_scene_right, f_law_scene_right := _, F_law_scene_right := F_law_scene_right, D_law_scene_right := ⟨PySem.W.mg_of X G a_law_scene_right, k_law_scene_right, b_law_scene_right⟩,
    a_law := fa, f_law := _, F_law := F_law, D_law := ⟨PySem.W.mg_of X G a_law, k_law, b_law⟩,
    m_isinstance := PySem.W.mg_none_of X G z_isinstance,
    m_int := PySem.W.mg_none_of X G z_int,
    m_bool := PySem.W.mg_none_of X G z_bool,
    m_str := PySem.W.mg_none_of X G z_str,
    m_list := PySem.W.mg_none_of X G z_list,
    m_tuple := PySem.W.mg_none_of X G z_tuple,
    m_dict := PySem.W.mg_none_of X G z_dict,
    m_len := PySem.W.mg_none_of X G z_len,
    m_sum := PySem.W.mg_none_of X G z_sum,
    m_zip := PySem.W.mg_none_of X G z_zip,
    m_range := PySem.W.mg_none_of X G z_range,
    m_abs := PySem.W.mg_none_of X G z_abs,
    m_max := PySem.W.mg_none_of X G z_max,
    m_min := PySem.W.mg_none_of X G z_min,
    g_MOST_RESTS := ⟨_, PySem.W.mg_of X G g_MOST_RESTS⟩,
    g_MOST_TOLD := ⟨_, PySem.W.mg_of X G g_MOST_TOLD⟩,
    B_numbers_with := B_numbers_with,
    B_joined := B_joined,
    B_clash := B_clash,
    aW := D, fW := fI, base := ⟨⟨_, _, Td, _, _, _, _, cda, cc, _, _, _, _, _, _, _, _, _, _, _, _, _, _, _, _, _, _, _, vs, _, _, file, tf, _, _, nT, _, lI, cI, lcd, hvs, hfile, lcc, lT, hline⟩, ⟨_, by unfold PySem.W.clsIn; rw [xW] <;> rfl⟩, PySem.W.mg_none_of X G mS, top_, any_⟩,
    j_TooMany := J_TooMany, a_TooMany := C_TooMany, c_TooMany := ⟨PySem.W.mg_of X G a_TooMany, ⟨_, _, _, _, _, _, _, _, _, _, _, _, _, _, x_TooMany⟩, sa_TooMany, nn_TooMany, ii_TooMany, tJ_TooMany, kc_TooMany, se_TooMany, sv_TooMany, ty_TooMany, ne_TooMany⟩, x_TooMany := ⟨ga_TooMany, gg_TooMany, se_TooMany, hd_TooMany⟩,
    o_TooMany := ⟨⟨_, _, _, _, _, _, _, _, _, _, _, _, _, _, _, _, _, _, _, _, _, _, _, _, _, _, _, _, _, _, _, lJ_TooMany, cJ_TooMany, lcdJ_TooMany, hvsJ_TooMany, hfileJ_TooMany, lccJ_TooMany, hlineJ_TooMany⟩, nc_TooMany, al_TooMany, tI, fn_TooMany⟩,
    a_InvalidRests := C_InvalidRests, c_InvalidRests := ⟨PySem.W.mg_of X G a_InvalidRests, ⟨_, _, _, _, _, _, _, _, _, _, _, _, _, _, x_InvalidRests⟩, sa_InvalidRests, nn_InvalidRests, ii_InvalidRests, tI, kc_InvalidRests, se_InvalidRests, sv_InvalidRests, ty_InvalidRests, ne_InvalidRests⟩, x_InvalidRests := ⟨ga_InvalidRests, gg_InvalidRests, se_InvalidRests, hd_InvalidRests⟩,
    a_InvalidBound := C_InvalidBound, c_InvalidBound := ⟨PySem.W.mg_of X G a_InvalidBound, ⟨_, _, _, _, _, _, _, _, _, _, _, _, _, _, x_InvalidBound⟩, sa_InvalidBound, nn_InvalidBound, ii_InvalidBound, tI, kc_InvalidBound, se_InvalidBound, sv_InvalidBound, ty_InvalidBound, ne_InvalidBound⟩, x_InvalidBound := ⟨ga_InvalidBound, gg_InvalidBound, se_InvalidBound, hd_InvalidBound⟩,
    e_TooMany_TooMany := exm_of se_TooMany se_TooMany ic_TooMany ty_TooMany s_TooMany_TooMany,
    e_TooMany_InvalidRests := exm_of se_TooMany se_InvalidRests ic_InvalidRests ty_InvalidRests s_TooMany_InvalidRests,
    e_TooMany_InvalidBound := exm_of se_TooMany se_InvalidBound ic_InvalidBound ty_InvalidBound s_TooMany_InvalidBound,
    e_InvalidRests_TooMany := exm_of se_InvalidRests se_TooMany ic_TooMany ty_TooMany s_InvalidRests_TooMany,
    e_InvalidRests_InvalidRests := exm_of se_InvalidRests se_InvalidRests ic_InvalidRests ty_InvalidRests s_InvalidRests_InvalidRests,
    e_InvalidRests_InvalidBound := exm_of se_InvalidRests se_InvalidBound ic_InvalidBound ty_InvalidBound s_InvalidRests_InvalidBound,
    e_InvalidBound_TooMany := exm_of se_InvalidBound se_TooMany ic_TooMany ty_TooMany s_InvalidBound_TooMany,
    e_InvalidBound_InvalidRests := exm_of se_InvalidBound se_InvalidRests ic_InvalidRests ty_InvalidRests s_InvalidBound_InvalidRests,
    e_InvalidBound_InvalidBound := exm_of se_InvalidBound se_InvalidBound ic_InvalidBound ty_InvalidBound s_InvalidBound_InvalidBound }
  exact ⟨PySem.W.fnOf "law" "law" (defArgs s_law) (defBody s_law) (defScope s_law) .none kV_law dc_law pm_law an_law cd_law ct_law, fun s v => .of_eq rfl, fun base _ _ => by
    have z := ok_law (w := w) (base := base) T
    exact z⟩
theorem sp_law_ok {K : PySem.W.Frag} {H : Hp} {a : Addr} {ns : List Int} (hO : Only H) (hS : SqL K H a (ns.map V.int)) : sp_law K [.ref a] H (fun v _ => v = .bl true) fun _ _ _ => False := by
  have hF : SqF K H a (ns.map V.int) := by
    rcases hS with (h | h) | h
    · rcases hO a with z | ⟨o, xs, z⟩
      · rw [z] at h; cases h
      · rw [z] at h; cases h
    · exact .inl h
    · exact .inr h
  exact ⟨fun _ => False, fun _ => False, ns, fun _ z => z, fun _ z => z.elim, fun _ z => z.elim, trivial, ⟨⟨a, rfl, hF⟩, True.intro⟩, fun v H' _ z => by cases z; rfl⟩
theorem walk {l : PySem.W.OpenLaw} {n : Nat} {q : Program} {loose : List Str} {XP : (Str → Option Value) → Heap → Prop} {YP : World → Heap → Prop} {d : DefRec} {K : Params → PySem.W.Frag} (hn : l.most = some n) (hn2 : n ≤ sizeLine) (hdf : d.params.defaults = [])
    (hY : ∀ (w : World) (h : Heap), YP w h → (K w.params).In h)
    (F : ∀ (w : World) (mg : Str → Option Value) (fa : Addr) (h : Heap), (K w.params).In h → h.Ns mainGlobals mg → mg d.name = some (.ref fa) →
      ∃ fd : FuncData, (∀ (s : Shared) (u : Value), BindsTo s fd ⟨[u], []⟩ [("script", u)]) ∧ ∀ base : Heap, (K w.params).In base → base.Ns mainGlobals mg → FnOk l.prog w (K w.params) mg base (L2.CX l.prog w) 15 fa fd ["script"] (sp_law (K w.params))) :
    PySem.W.WalkO q loose XP YP l.row.toRowW d [] (fun f vs => PySem.call f vs) :=
  L2.walk_of (n := n) (k := 15) (x := "script") (CX := fun w => L2.CX l.prog w) (sp := fun w => sp_law (K w.params)) hn hn2 hdf ⟨rfl, by decide, by decide⟩ hY F (fun _ _ a ns hl hO hS => sp_law_ok hO hS) fun _ _ _ _ _ z => by
    obtain ⟨_, _, _, _, _, _, _, _, _, _, _, _, z⟩ := z
    exact z.elim
end
end Lk02
open PySem PySem.W PyProof.Rows
set_option maxRecDepth 100000 in
set_option maxHeartbeats 0 in
theorem PySem.Challenge.cw_everywrap_k02_rests_put_together_holds : PySem.Challenge.rw_everywrap_k02_rests_put_together.Holds := by
  w_on; o_law; k_head; (case hw => w_witness2)
  k_fill
  refine Lk02.walk (l := PySem.Challenge.rw_everywrap_k02_rests_put_together) rfl (by decide) rfl (fun w h Y => PySem.W.kIn_of Y) ?F
  case F =>
    intro w mg fa h KX G hmg
    refine' Lk02.all_mk KX G hmg ?a_is_whole ?l_is_whole ?c_is_whole ?k_is_whole ?a_is_list ?l_is_list ?c_is_list ?k_is_list ?a_shared ?l_shared ?c_shared ?k_shared ?a_are_rests ?l_are_rests ?c_are_rests ?k_are_rests ?a_check_rests ?l_check_rests ?c_check_rests ?k_check_rests ?a_joined_two ?l_joined_two ?c_joined_two ?k_joined_two ?a_joined_in ?l_joined_in ?c_joined_in ?k_joined_in ?a_joined ?l_joined ?c_joined ?k_joined ?a_clash ?l_clash ?c_clash ?k_clash ?a_check_bound ?l_check_bound ?c_check_bound ?k_check_bound ?a_numbers_in ?l_numbers_in ?c_numbers_in ?k_numbers_in ?a_numbers_with ?l_numbers_with ?c_numbers_with ?k_numbers_with ?a_law_box ?l_law_box ?c_law_box ?k_law_box ?a_law_take ?l_law_take ?c_law_take ?k_law_take ?a_law_cell ?l_law_cell ?c_law_cell ?k_law_cell ?a_law_common ?l_law_common ?c_law_common ?k_law_common ?a_law_same ?l_law_same ?c_law_same ?k_law_same ?a_law_rests ?l_law_rests ?c_law_rests ?k_law_rests ?a_law_do_meet ?l_law_do_meet ?c_law_do_meet ?k_law_do_meet ?a_law_share ?l_law_share ?c_law_share ?k_law_share ?a_law_step ?l_law_step ?c_law_step ?k_law_step ?a_law_joined ?l_law_joined ?c_law_joined ?k_law_joined ?a_law_clash ?l_law_clash ?c_law_clash ?k_law_clash ?a_law_still ?l_law_still ?c_law_still ?k_law_still ?a_law_call ?l_law_call ?c_law_call ?k_law_call ?a_law_numbers ?l_law_numbers ?c_law_numbers ?k_law_numbers ?a_law_refused_right ?l_law_refused_right ?c_law_refused_right ?k_law_refused_right ?a_law_scene_right ?l_law_scene_right ?c_law_scene_right ?k_law_scene_right ?a_law ?l_law ?c_law ?k_law ?z_isinstance ?z_int ?z_bool ?z_str ?z_list ?z_tuple ?z_dict ?z_len ?z_sum ?z_zip ?z_range ?z_abs ?z_max ?z_min ?g_MOST_RESTS ?g_MOST_TOLD ?aW ?xW ?iW ?lI ?cI ?lcd ?hvs ?hfile ?lcc ?lT ?hline ?mS ?top_ ?any_ ?a_TooMany ?x_TooMany ?sa_TooMany ?nn_TooMany ?ii_TooMany ?kc_TooMany ?se_TooMany ?sv_TooMany ?ty_TooMany ?ne_TooMany ?ga_TooMany ?gg_TooMany ?hd_TooMany ?ic_TooMany ?lJ_TooMany ?cJ_TooMany ?lcdJ_TooMany ?hvsJ_TooMany ?hfileJ_TooMany ?lccJ_TooMany ?hlineJ_TooMany ?nc_TooMany ?al_TooMany ?tJ_TooMany ?fn_TooMany ?a_InvalidRests ?x_InvalidRests ?sa_InvalidRests ?nn_InvalidRests ?ii_InvalidRests ?kc_InvalidRests ?se_InvalidRests ?sv_InvalidRests ?ty_InvalidRests ?ne_InvalidRests ?ga_InvalidRests ?gg_InvalidRests ?hd_InvalidRests ?ic_InvalidRests ?a_InvalidBound ?x_InvalidBound ?sa_InvalidBound ?nn_InvalidBound ?ii_InvalidBound ?kc_InvalidBound ?se_InvalidBound ?sv_InvalidBound ?ty_InvalidBound ?ne_InvalidBound ?ga_InvalidBound ?gg_InvalidBound ?hd_InvalidBound ?ic_InvalidBound ?tI ?s_TooMany_TooMany ?s_TooMany_InvalidRests ?s_TooMany_InvalidBound ?s_InvalidRests_TooMany ?s_InvalidRests_InvalidRests ?s_InvalidRests_InvalidBound ?s_InvalidBound_TooMany ?s_InvalidBound_InvalidRests ?s_InvalidBound_InvalidBound
    (case a_is_whole => k_is)
    (case l_is_whole => k_is)
    (case c_is_whole => k_is)
    (case k_is_whole => k_is)
    (case a_is_list => k_is)
    (case l_is_list => k_is)
    (case c_is_list => k_is)
    (case k_is_list => k_is)
    (case a_shared => k_is)
    (case l_shared => k_is)
    (case c_shared => k_is)
    (case k_shared => k_is)
    (case a_are_rests => k_is)
    (case l_are_rests => k_is)
    (case c_are_rests => k_is)
    (case k_are_rests => k_is)
    (case a_check_rests => k_is)
    (case l_check_rests => k_is)
    (case c_check_rests => k_is)
    (case k_check_rests => k_is)
    (case a_joined_two => k_is)
    (case l_joined_two => k_is)
    (case c_joined_two => k_is)
    (case k_joined_two => k_is)
    (case a_joined_in => k_is)
    (case l_joined_in => k_is)
    (case c_joined_in => k_is)
    (case k_joined_in => k_is)
    (case a_joined => k_is)
    (case l_joined => k_is)
    (case c_joined => k_is)
    (case k_joined => k_is)
    (case a_clash => k_is)
    (case l_clash => k_is)
    (case c_clash => k_is)
    (case k_clash => k_is)
    (case a_check_bound => k_is)
    (case l_check_bound => k_is)
    (case c_check_bound => k_is)
    (case k_check_bound => k_is)
    (case a_numbers_in => k_is)
    (case l_numbers_in => k_is)
    (case c_numbers_in => k_is)
    (case k_numbers_in => k_is)
    (case a_numbers_with => k_is)
    (case l_numbers_with => k_is)
    (case c_numbers_with => k_is)
    (case k_numbers_with => k_is)
    (case a_law_box => k_is)
    (case l_law_box => k_is)
    (case c_law_box => k_is)
    (case k_law_box => k_is)
    (case a_law_take => k_is)
    (case l_law_take => k_is)
    (case c_law_take => k_is)
    (case k_law_take => k_is)
    (case a_law_cell => k_is)
    (case l_law_cell => k_is)
    (case c_law_cell => k_is)
    (case k_law_cell => k_is)
    (case a_law_common => k_is)
    (case l_law_common => k_is)
    (case c_law_common => k_is)
    (case k_law_common => k_is)
    (case a_law_same => k_is)
    (case l_law_same => k_is)
    (case c_law_same => k_is)
    (case k_law_same => k_is)
    (case a_law_rests => k_is)
    (case l_law_rests => k_is)
    (case c_law_rests => k_is)
    (case k_law_rests => k_is)
    (case a_law_do_meet => k_is)
    (case l_law_do_meet => k_is)
    (case c_law_do_meet => k_is)
    (case k_law_do_meet => k_is)
    (case a_law_share => k_is)
    (case l_law_share => k_is)
    (case c_law_share => k_is)
    (case k_law_share => k_is)
    (case a_law_step => k_is)
    (case l_law_step => k_is)
    (case c_law_step => k_is)
    (case k_law_step => k_is)
    (case a_law_joined => k_is)
    (case l_law_joined => k_is)
    (case c_law_joined => k_is)
    (case k_law_joined => k_is)
    (case a_law_clash => k_is)
    (case l_law_clash => k_is)
    (case c_law_clash => k_is)
    (case k_law_clash => k_is)
    (case a_law_still => k_is)
    (case l_law_still => k_is)
    (case c_law_still => k_is)
    (case k_law_still => k_is)
    (case a_law_call => k_is)
    (case l_law_call => k_is)
    (case c_law_call => k_is)
    (case k_law_call => k_is)
    (case a_law_numbers => k_is)
    (case l_law_numbers => k_is)
    (case c_law_numbers => k_is)
    (case k_law_numbers => k_is)
    (case a_law_refused_right => k_is)
    (case l_law_refused_right => k_is)
    (case c_law_refused_right => k_is)
    (case k_law_refused_right => k_is)
    (case a_law_scene_right => k_is)
    (case l_law_scene_right => k_is)
    (case c_law_scene_right => k_is)
    (case k_law_scene_right => k_is)
    (case a_law => k_is)
    (case l_law => k_is)
    (case c_law => k_is)
    (case k_law => k_is)
    (case z_isinstance => k_is)
    (case z_int => k_is)
    (case z_bool => k_is)
    (case z_str => k_is)
    (case z_list => k_is)
    (case z_tuple => k_is)
    (case z_dict => k_is)
    (case z_len => k_is)
    (case z_sum => k_is)
    (case z_zip => k_is)
    (case z_range => k_is)
    (case z_abs => k_is)
    (case z_max => k_is)
    (case z_min => k_is)
    (case g_MOST_RESTS => k_is)
    (case g_MOST_TOLD => k_is)
    (case aW => k_is)
    (case xW => k_is)
    (case iW => k_is)
    (case lI => k_is)
    (case cI => k_is)
    (case lcd => k_is)
    (case hvs => rfl)
    (case hfile => decide +kernel)
    (case lcc => k_is)
    (case lT => k_is)
    (case hline => rfl)
    (case mS => k_is)
    (case top_ => decide +kernel)
    (case any_ => k_is)
    (case a_TooMany => k_is)
    (case x_TooMany => k_is)
    (case sa_TooMany => k_is)
    (case nn_TooMany => k_is)
    (case ii_TooMany => k_is)
    (case kc_TooMany => k_is)
    (case se_TooMany => k_is)
    (case sv_TooMany => k_is)
    (case ty_TooMany => k_is)
    (case ne_TooMany => first | decide | k_is)
    (case ga_TooMany => k_is)
    (case gg_TooMany => k_is)
    (case hd_TooMany => k_is)
    (case ic_TooMany => k_is)
    (case lJ_TooMany => k_is)
    (case cJ_TooMany => k_is)
    (case lcdJ_TooMany => k_is)
    (case hvsJ_TooMany => rfl)
    (case hfileJ_TooMany => decide +kernel)
    (case lccJ_TooMany => k_is)
    (case hlineJ_TooMany => rfl)
    (case nc_TooMany => k_is)
    (case al_TooMany => first | k_is | rfl)
    (case tJ_TooMany => k_is)
    (case fn_TooMany => first | k_is | rfl)
    (case a_InvalidRests => k_is)
    (case x_InvalidRests => k_is)
    (case sa_InvalidRests => k_is)
    (case nn_InvalidRests => k_is)
    (case ii_InvalidRests => k_is)
    (case kc_InvalidRests => k_is)
    (case se_InvalidRests => k_is)
    (case sv_InvalidRests => k_is)
    (case ty_InvalidRests => k_is)
    (case ne_InvalidRests => first | decide | k_is)
    (case ga_InvalidRests => k_is)
    (case gg_InvalidRests => k_is)
    (case hd_InvalidRests => k_is)
    (case ic_InvalidRests => k_is)
    (case a_InvalidBound => k_is)
    (case x_InvalidBound => k_is)
    (case sa_InvalidBound => k_is)
    (case nn_InvalidBound => k_is)
    (case ii_InvalidBound => k_is)
    (case kc_InvalidBound => k_is)
    (case se_InvalidBound => k_is)
    (case sv_InvalidBound => k_is)
    (case ty_InvalidBound => k_is)
    (case ne_InvalidBound => first | decide | k_is)
    (case ga_InvalidBound => k_is)
    (case gg_InvalidBound => k_is)
    (case hd_InvalidBound => k_is)
    (case ic_InvalidBound => k_is)
    (case tI => k_is)
    (case s_TooMany_TooMany => first | rfl | k_is)
    (case s_TooMany_InvalidRests => first | rfl | k_is)
    (case s_TooMany_InvalidBound => first | rfl | k_is)
    (case s_InvalidRests_TooMany => first | rfl | k_is)
    (case s_InvalidRests_InvalidRests => first | rfl | k_is)
    (case s_InvalidRests_InvalidBound => first | rfl | k_is)
    (case s_InvalidBound_TooMany => first | rfl | k_is)
    (case s_InvalidBound_InvalidRests => first | rfl | k_is)
    (case s_InvalidBound_InvalidBound => first | rfl | k_is)
