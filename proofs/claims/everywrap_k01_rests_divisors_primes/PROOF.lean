import PyProof.Rows.All
import Wide.All
import OpenK.AllK
import Wide.FinOn
import HandS.ForMost
import HandS.ForExc
import HandS.IsInst
import HandS.TupMul
import HandS.TupAny
import HandS.Wide
import HandS.Walk
import HandS.Style
import HandS.TryMany
import HandS.ExcInit
import HandS.NoneIn
import HandS.Zip
import KE.KExcSuper
import KE.KFromBytes
import HandS.ExcSuper
import HandS.ExcField
import HandS.Defaults
import HandS.HeadWalk
import PyProof.EnumIter
import PyProof.EnumMake
import HandS.Zip0
import HandS.Iter
import HandS.Text
import HandS.Dict
import HandS.WordsDict
import HandS.Gcd
import HandS.Star
import HandS.More
import PySem.Challenge.RW_everywrap_k01_rests_divisors_primes
section
set_option Elab.async false
set_option linter.all false
set_option maxRecDepth 100000
set_option maxHeartbeats 1000000
/-! EwA: values as data over the layer: frames, data, types of values, typed slots, typed readings. -/
namespace Ew
open PySem PySem.Spec PyProof.Rows L2

/-! ### boxes and frames -/
/-- the shape of a box of draws -/
def BxL (xs : List V) : Prop := ∃ (g : Int) (b : Bool) (c n : Int), xs = [.int g, .bl b, .int c, .int n] ∧ 0 ≤ c ∧ c < 2147483629
def BoxAt (H : Hp) (a : Addr) : Prop := ∃ xs, H a = some (.lst xs) ∧ BxL xs
/-- everything stands as it stood; the boxes at B may have turned -/
def Ex (B : Addr → Prop) (H H' : Hp) : Prop := ∀ a o, H a = some o → H' a = some o ∨ (B a ∧ BoxAt H a ∧ BoxAt H' a)
section
variable {B : Addr → Prop} {H H1 H2 H3 : Hp} {a p : Addr} {o : HO} {K : PySem.W.Frag} {xs : List V}
theorem Ex.refl (B : Addr → Prop) (H : Hp) : Ex B H H := fun _ _ h => .inl h
theorem Ex.trans (e : Ex B H1 H2) (f : Ex B H2 H3) : Ex B H1 H3 := fun a o h => by
  rcases e a o h with q | ⟨b, q1, q2⟩
  · rcases f a o q with r | ⟨b, r1, r2⟩
    · exact .inl r
    · refine .inr ⟨b, ?_, r2⟩
      obtain ⟨xs, r1, r3⟩ := r1
      rw [q] at r1; cases r1
      exact ⟨xs, h, r3⟩
  · obtain ⟨ys, q3, q4⟩ := q2
    rcases f a _ q3 with r | ⟨_, r1, r2⟩
    · exact .inr ⟨b, q1, ys, r, q4⟩
    · exact .inr ⟨b, q1, r2⟩
theorem Ex.keep (e : Ex B H1 H2) (h : H1 a = some o) (n : ¬ B a) : H2 a = some o := (e a o h).elim id fun q => absurd q.1 n
theorem Ex.keepT (e : Ex B H1 H2) (h : H1 a = some o) (n : ∀ xs, o ≠ .lst xs) : H2 a = some o := (e a o h).elim id fun q => by
  obtain ⟨_, ⟨xs, q, _⟩, _⟩ := q
  rw [h] at q; cases q
  exact absurd rfl (n xs)
theorem Ex.free (e : Ex B H1 H2) (h : H2 p = none) : H1 p = none := by
  cases q : H1 p with
  | none => rfl
  | some o =>
    rcases e p o q with r | ⟨_, _, _, r, _⟩
    · rw [r] at h; cases h
    · rw [r] at h; cases h
theorem Ex.new (h : H p = none) : Ex B H (upd H p o) := fun b u e => .inl (by rw [upd_ne (ne_of_none e h)]; exact e)
/-- an object that was not there at H1 is changed -/
theorem Ex.mut (e : Ex B H1 H2) (h : H1 p = none) : Ex B H1 (upd H2 p o) := fun b u q => by
  have nb := ne_of_none q h
  rcases e b u q with r | ⟨x, r1, r2⟩
  · exact .inl (by rw [upd_ne nb]; exact r)
  · refine .inr ⟨x, r1, ?_⟩
    obtain ⟨ys, r3, r4⟩ := r2
    exact ⟨ys, by rw [upd_ne nb]; exact r3, r4⟩
theorem Ex.box (e : Ex B H1 H2) (h : BoxAt H1 a) : BoxAt H2 a := by
  obtain ⟨xs, h1, h2⟩ := h
  rcases e a _ h1 with r | ⟨_, _, r⟩
  · exact ⟨xs, r, h2⟩
  · exact r
/-- the box itself is changed -/
theorem Ex.turn (b : B p) (h : BoxAt H p) (n : BxL xs) : Ex B H (upd H p (.lst xs)) := fun c u q => by
  by_cases e : c = p
  · subst e
    exact .inr ⟨b, h, xs, upd_same, n⟩
  · exact .inl (by rw [upd_ne e]; exact q)
theorem Ex.sqT (e : Ex B H1 H2) (h : SqT K H1 a xs) : SqT K H2 a xs := by
  rcases h with (h | ⟨o, h⟩) | h
  · exact .inl (.inl (e.keepT h fun _ z => nomatch z))
  · exact .inl (.inr ⟨o, e.keepT h fun _ z => nomatch z⟩)
  · exact .inr h
theorem Ex.sqL (e : Ex B H1 H2) (n : ¬ B a) (h : SqL K H1 a xs) : SqL K H2 a xs := by
  rcases h with (h | ⟨o, h⟩) | h
  · exact .inl (.inl (e.keep h n))
  · exact .inl (.inr ⟨o, e.keep h n⟩)
  · exact .inr h
theorem Ex.sub {B' : Addr → Prop} (e : Ex B H1 H2) (s : ∀ a, B a → B' a) : Ex B' H1 H2 := fun a o h => (e a o h).imp id fun q => ⟨s a q.1, q.2⟩
end

/-- .. and what is under construction at M may have changed -/
def Exm (M B : Addr → Prop) (H H' : Hp) : Prop := ∀ a o, H a = some o → H' a = some o ∨ (M a ∧ (∃ xs, o = .lst xs) ∧ (∃ ys, H' a = some (.lst ys)) ∧ (B a → BoxAt H a → BoxAt H' a))
section
variable {M B : Addr → Prop} {H H1 H2 H3 : Hp} {a p D : Addr} {o : HO} {K : PySem.W.Frag} {xs ys : List V}
theorem Ex.toM (e : Ex B H1 H2) (s : ∀ a, B a → M a) : Exm M B H1 H2 := fun a o h => (e a o h).imp id fun ⟨b, ⟨xs, q1, q2⟩, q3⟩ => ⟨s a b, ⟨xs, by rw [h] at q1; exact Option.some.inj q1⟩, let ⟨ys, r, _⟩ := q3; ⟨ys, r⟩, fun _ _ => q3⟩
theorem Exm.keep (e : Exm M B H1 H2) (h : H1 a = some o) (n : ¬ M a) : H2 a = some o := (e a o h).elim id fun q => absurd q.1 n
theorem Exm.keepT (e : Exm M B H1 H2) (h : H1 a = some o) (n : ∀ xs, o ≠ .lst xs) : H2 a = some o := (e a o h).elim id fun ⟨_, ⟨xs, q⟩, _⟩ => absurd q (n xs)
theorem Exm.box (e : Exm M B H1 H2) (b : B a) (h : BoxAt H1 a) : BoxAt H2 a := by
  obtain ⟨xs, h1, h2⟩ := h
  rcases e a _ h1 with r | ⟨_, _, _, r⟩
  · exact ⟨xs, r, h2⟩
  · exact r b ⟨xs, h1, h2⟩
theorem Exm.sqT (e : Exm M B H1 H2) (h : SqT K H1 a xs) : SqT K H2 a xs := by
  rcases h with (h | ⟨o, h⟩) | h
  · exact .inl (.inl (e.keepT h fun _ z => nomatch z))
  · exact .inl (.inr ⟨o, e.keepT h fun _ z => nomatch z⟩)
  · exact .inr h
theorem Exm.sqL (e : Exm M B H1 H2) (n : ¬ M a) (h : SqL K H1 a xs) : SqL K H2 a xs := by
  rcases h with (h | ⟨o, h⟩) | h
  · exact .inl (.inl (e.keep h n))
  · exact .inl (.inr ⟨o, e.keep h n⟩)
  · exact .inr h
/-- a list under construction is written -/
theorem Exm.put (m : M D) (b : ¬ B D) (h : H D = some (.lst xs)) : Exm M B H (upd H D (.lst ys)) := fun c u q => by
  by_cases e : c = D
  · subst e
    rw [h] at q; cases q
    exact .inr ⟨m, ⟨xs, rfl⟩, ⟨ys, upd_same⟩, fun z => absurd z b⟩
  · exact .inl (by rw [upd_ne e]; exact q)
end
/-- M and D -/
def ad (M : Addr → Prop) (D : Addr) : Addr → Prop := fun a => M a ∨ a = D

/-! ### data -/
def kD : Key → PyData
  | .inl i => .int i
  | .inr x => .str x
mutual
/-- the value is the data; its lists are no boxes of B -/
inductive Rp (M : Addr → Prop) (K : PySem.W.Frag) (H : Hp) : V → PyData → Prop
  | non : Rp M K H .non .none
  | bl (b : Bool) : Rp M K H (.bl b) (.bool b)
  | int (i : Int) : Rp M K H (.int i) (.int i)
  | str (x : Str) : Rp M K H (.str x) (.str x)
  | lst {a : Addr} {xs : List V} {ds : List PyData} : H a = some (.lst xs) → ¬ M a → RpA M K H xs ds → Rp M K H (.ref a) (.list ds)
  | tup {a : Addr} {xs : List V} {ds : List PyData} : SqT K H a xs → RpA M K H xs ds → Rp M K H (.ref a) (.tuple ds)
  | dic {a : Addr} {kvs : List (Key × V)} {ds : List (PyData × PyData)} : H a = some (.dK kvs) → RpK M K H kvs ds → Rp M K H (.ref a) (.dict ds)
inductive RpA (M : Addr → Prop) (K : PySem.W.Frag) (H : Hp) : List V → List PyData → Prop
  | nil : RpA M K H [] []
  | cons {v : V} {vs : List V} {d : PyData} {ds : List PyData} : Rp M K H v d → RpA M K H vs ds → RpA M K H (v :: vs) (d :: ds)
inductive RpK (M : Addr → Prop) (K : PySem.W.Frag) (H : Hp) : List (Key × V) → List (PyData × PyData) → Prop
  | nil : RpK M K H [] []
  | cons {k : Key} {v : V} {vs : List (Key × V)} {d : PyData} {ds : List (PyData × PyData)} : Rp M K H v d → RpK M K H vs ds → RpK M K H ((k, v) :: vs) ((kD k, d) :: ds)
end
section
variable {M B : Addr → Prop} {K : PySem.W.Frag} {H H' : Hp}
mutual
theorem Rp.up (e : Exm M B H H') : ∀ {v : V} {d : PyData}, Rp M K H v d → Rp M K H' v d
  | _, _, .non => .non
  | _, _, .bl b => .bl b
  | _, _, .int i => .int i
  | _, _, .str x => .str x
  | _, _, .lst h n r => .lst (e.keep h n) n (RpA.up e r)
  | _, _, .tup h r => .tup (e.sqT h) (RpA.up e r)
  | _, _, .dic h r => .dic (e.keepT h fun _ z => nomatch z) (RpK.up e r)
theorem RpA.up (e : Exm M B H H') : ∀ {v : List V} {d : List PyData}, RpA M K H v d → RpA M K H' v d
  | _, _, .nil => .nil
  | _, _, .cons h r => .cons (Rp.up e h) (RpA.up e r)
theorem RpK.up (e : Exm M B H H') : ∀ {v : List (Key × V)} {d : List (PyData × PyData)}, RpK M K H v d → RpK M K H' v d
  | _, _, .nil => .nil
  | _, _, .cons h r => .cons (Rp.up e h) (RpK.up e r)
end
theorem RpA.length : ∀ {v : List V} {d : List PyData}, RpA M K H v d → v.length = d.length
  | _, _, .nil => rfl
  | _, _, .cons _ r => by rw [List.length_cons, List.length_cons, RpA.length r]
theorem RpA.get : ∀ {v : List V} {d : List PyData} {i : Nat} {x : V}, RpA M K H v d → v[i]? = some x → ∃ y, d[i]? = some y ∧ Rp M K H x y
  | _, _, _, _, .nil, e => by simp at e
  | _, _, 0, _, .cons h _, e => by simp at e; subst e; exact ⟨_, rfl, h⟩
  | _, _, i + 1, _, .cons _ r, e => by
    obtain ⟨y, h1, h2⟩ := RpA.get (i := i) r (by simpa using e)
    exact ⟨y, by simpa using h1, h2⟩
theorem RpA.getD : ∀ {v : List V} {d : List PyData} {i : Nat} {y : PyData}, RpA M K H v d → d[i]? = some y → ∃ x, v[i]? = some x ∧ Rp M K H x y
  | _, _, _, _, .nil, e => by simp at e
  | _, _, 0, _, .cons h _, e => by simp at e; subst e; exact ⟨_, rfl, h⟩
  | _, _, i + 1, _, .cons _ r, e => by
    obtain ⟨y, h1, h2⟩ := RpA.getD (i := i) r (by simpa using e)
    exact ⟨y, by simpa using h1, h2⟩
theorem RpA.append : ∀ {v w : List V} {d e : List PyData}, RpA M K H v d → RpA M K H w e → RpA M K H (v ++ w) (d ++ e)
  | _, _, _, _, .nil, s => s
  | _, _, _, _, .cons h r, s => .cons h (RpA.append r s)
mutual
theorem Rp.weak {D : Addr} (n : H D = none) : ∀ {v : V} {d : PyData}, Rp M K H v d → Rp (ad M D) K H v d
  | _, _, .non => .non
  | _, _, .bl b => .bl b
  | _, _, .int i => .int i
  | _, _, .str x => .str x
  | _, _, .lst h q r => .lst h (fun z => z.elim q (ne_of_none h n)) (RpA.weak n r)
  | _, _, .tup h r => .tup h (RpA.weak n r)
  | _, _, .dic h r => .dic h (RpK.weak n r)
theorem RpA.weak {D : Addr} (n : H D = none) : ∀ {v : List V} {d : List PyData}, RpA M K H v d → RpA (ad M D) K H v d
  | _, _, .nil => .nil
  | _, _, .cons h r => .cons (Rp.weak n h) (RpA.weak n r)
theorem RpK.weak {D : Addr} (n : H D = none) : ∀ {v : List (Key × V)} {d : List (PyData × PyData)}, RpK M K H v d → RpK (ad M D) K H v d
  | _, _, .nil => .nil
  | _, _, .cons h r => .cons (Rp.weak n h) (RpK.weak n r)
end
mutual
theorem Rp.drop {D : Addr} : ∀ {v : V} {d : PyData}, Rp (ad M D) K H v d → Rp M K H v d
  | _, _, .non => .non
  | _, _, .bl b => .bl b
  | _, _, .int i => .int i
  | _, _, .str x => .str x
  | _, _, .lst h q r => .lst h (fun z => q (.inl z)) (RpA.drop r)
  | _, _, .tup h r => .tup h (RpA.drop r)
  | _, _, .dic h r => .dic h (RpK.drop r)
theorem RpA.drop {D : Addr} : ∀ {v : List V} {d : List PyData}, RpA (ad M D) K H v d → RpA M K H v d
  | _, _, .nil => .nil
  | _, _, .cons h r => .cons (Rp.drop h) (RpA.drop r)
theorem RpK.drop {D : Addr} : ∀ {v : List (Key × V)} {d : List (PyData × PyData)}, RpK (ad M D) K H v d → RpK M K H v d
  | _, _, .nil => .nil
  | _, _, .cons h r => .cons (Rp.drop h) (RpK.drop r)
end
end

/-! ### types of values -/
structure Typ where
  p : (M B : Addr → Prop) → V → Hp → Prop
  up : ∀ {M B : Addr → Prop} {v : V} {H H' : Hp}, Exm M B H H' → p M B v H → p M B v H'
  weak : ∀ {M B : Addr → Prop} {v : V} {H : Hp} {D : Addr}, H D = none → p M B v H → p (ad M D) B v H
  drop : ∀ {M B : Addr → Prop} {v : V} {H : Hp} {D : Addr}, p (ad M D) B v H → p M B v H
/-- just the data d -/
def dt (K : PySem.W.Frag) (d : PyData) : Typ := ⟨fun M _ v H => Rp M K H v d, fun e h => Rp.up e h, fun n h => Rp.weak n h, fun h => Rp.drop h⟩
/-- just the value v -/
def isV (w : V) : Typ := ⟨fun _ _ v _ => v = w, fun _ h => h, fun _ h => h, fun h => h⟩
/-- a box -/
def bx : Typ := ⟨fun _ B v H => ∃ p, v = .ref p ∧ B p ∧ BoxAt H p, fun e ⟨p, h1, h2, h3⟩ => ⟨p, h1, h2, e.box h2 h3⟩, fun _ h => h, fun h => h⟩
def exT {α : Type} (A : α → Typ) : Typ := ⟨fun M B v H => ∃ x, (A x).p M B v H, fun e ⟨x, h⟩ => ⟨x, (A x).up e h⟩, fun n ⟨x, h⟩ => ⟨x, (A x).weak n h⟩, fun ⟨x, h⟩ => ⟨x, (A x).drop h⟩⟩
def gd (φ : Prop) (A : Typ) : Typ := ⟨fun M B v H => φ ∧ A.p M B v H, fun e ⟨h1, h2⟩ => ⟨h1, A.up e h2⟩, fun n ⟨h1, h2⟩ => ⟨h1, A.weak n h2⟩, fun ⟨h1, h2⟩ => ⟨h1, A.drop h2⟩⟩
def anT (A C : Typ) : Typ := ⟨fun M B v H => A.p M B v H ∧ C.p M B v H, fun e ⟨h1, h2⟩ => ⟨A.up e h1, C.up e h2⟩, fun n ⟨h1, h2⟩ => ⟨A.weak n h1, C.weak n h2⟩, fun ⟨h1, h2⟩ => ⟨A.drop h1, C.drop h2⟩⟩
section
variable {M B : Addr → Prop}
/-- values by types, one by one -/
def TysV (M B : Addr → Prop) : List Typ → List V → Hp → Prop
  | [], [], _ => True
  | T :: Ts, v :: vs, H => T.p M B v H ∧ TysV M B Ts vs H
  | _, _, _ => False
theorem TysV.up {H H' : Hp} (e : Exm M B H H') : ∀ {Ts : List Typ} {vs : List V}, TysV M B Ts vs H → TysV M B Ts vs H'
  | [], [], h => h
  | T :: _, _ :: _, h => ⟨T.up e h.1, TysV.up e h.2⟩
  | [], _ :: _, h => h.elim
  | _ :: _, [], h => h.elim
theorem TysV.weak {H : Hp} {D : Addr} (n : H D = none) : ∀ {Ts : List Typ} {vs : List V}, TysV M B Ts vs H → TysV (ad M D) B Ts vs H
  | [], [], h => h
  | T :: _, _ :: _, h => ⟨T.weak n h.1, TysV.weak n h.2⟩
  | [], _ :: _, h => h.elim
  | _ :: _, [], h => h.elim
theorem TysV.drop {H : Hp} {D : Addr} : ∀ {Ts : List Typ} {vs : List V}, TysV (ad M D) B Ts vs H → TysV M B Ts vs H
  | [], [], h => h
  | T :: _, _ :: _, h => ⟨T.drop h.1, TysV.drop h.2⟩
  | [], _ :: _, h => h.elim
  | _ :: _, [], h => h.elim
theorem TysV.length {H : Hp} : ∀ {Ts : List Typ} {vs : List V}, TysV M B Ts vs H → vs.length = Ts.length
  | [], [], _ => rfl
  | _ :: _, _ :: _, h => by rw [List.length_cons, List.length_cons, TysV.length h.2]
  | [], _ :: _, h => h.elim
  | _ :: _, [], h => h.elim
theorem TysV.append {H : Hp} : ∀ {Ts Us : List Typ} {vs ws : List V}, TysV M B Ts vs H → TysV M B Us ws H → TysV M B (Ts ++ Us) (vs ++ ws) H
  | [], _, [], _, _, h => h
  | _ :: _, _, _ :: _, _, h, k => ⟨h.1, TysV.append h.2 k⟩
  | [], _, _ :: _, _, h, _ => h.elim
  | _ :: _, _, [], _, h, _ => h.elim
theorem TysV.get {H : Hp} : ∀ {Ts : List Typ} {vs : List V} {i : Nat} {T : Typ}, TysV M B Ts vs H → Ts[i]? = some T → ∃ v, vs[i]? = some v ∧ T.p M B v H
  | T :: _, v :: _, 0, _, h, e => by simp at e; subst e; exact ⟨v, rfl, h.1⟩
  | _ :: _, _ :: _, i + 1, _, h, e => by
    obtain ⟨v, h1, h2⟩ := TysV.get (i := i) h.2 (by simpa using e)
    exact ⟨v, by simpa using h1, h2⟩
  | [], [], _, _, _, e => by simp at e
  | [], _ :: _, _, _, h, _ => h.elim
  | _ :: _, [], _, _, h, _ => h.elim
theorem TysV.data {K : PySem.W.Frag} {H : Hp} : ∀ {ds : List PyData} {vs : List V}, TysV M B (ds.map (dt K)) vs H → RpA M K H vs ds
  | [], [], _ => .nil
  | _ :: _, _ :: _, h => .cons h.1 (TysV.data h.2)
  | [], _ :: _, h => h.elim
  | _ :: _, [], h => h.elim
theorem TysV.ofData {K : PySem.W.Frag} {H : Hp} : ∀ {ds : List PyData} {vs : List V}, RpA M K H vs ds → TysV M B (ds.map (dt K)) vs H
  | [], [], _ => True.intro
  | _ :: _, _ :: _, .cons h r => ⟨h, TysV.ofData r⟩

/-! ### typed slots -/
abbrev Gam := List (Option Typ)
def EnvL (M B : Addr → Prop) : Gam → L2.St → Hp → Prop
  | [], [], _ => True
  | none :: Γ, _ :: σ, H => EnvL M B Γ σ H
  | some T :: Γ, some v :: σ, H => T.p M B v H ∧ EnvL M B Γ σ H
  | _, _, _ => False
theorem EnvL.up {H H' : Hp} (e : Exm M B H H') : ∀ {Γ : Gam} {σ : L2.St}, EnvL M B Γ σ H → EnvL M B Γ σ H'
  | [], [], h => h
  | none :: Γ, _ :: σ, h => EnvL.up (Γ := Γ) e h
  | some T :: _, some _ :: _, h => ⟨T.up e h.1, EnvL.up e h.2⟩
  | [], _ :: _, h => h.elim
  | none :: _, [], h => h.elim
  | some _ :: _, [], h => h.elim
  | some _ :: _, none :: _, h => h.elim
theorem EnvL.weak {H : Hp} {D : Addr} (n : H D = none) : ∀ {Γ : Gam} {σ : L2.St}, EnvL M B Γ σ H → EnvL (ad M D) B Γ σ H
  | [], [], h => h
  | none :: Γ, _ :: σ, h => EnvL.weak (Γ := Γ) n h
  | some T :: _, some _ :: _, h => ⟨T.weak n h.1, EnvL.weak n h.2⟩
  | [], _ :: _, h => h.elim
  | none :: _, [], h => h.elim
  | some _ :: _, [], h => h.elim
  | some _ :: _, none :: _, h => h.elim
theorem EnvL.drop {H : Hp} {D : Addr} : ∀ {Γ : Gam} {σ : L2.St}, EnvL (ad M D) B Γ σ H → EnvL M B Γ σ H
  | [], [], h => h
  | none :: Γ, _ :: σ, h => EnvL.drop (Γ := Γ) h
  | some T :: _, some _ :: _, h => ⟨T.drop h.1, EnvL.drop h.2⟩
  | [], _ :: _, h => h.elim
  | none :: _, [], h => h.elim
  | some _ :: _, [], h => h.elim
  | some _ :: _, none :: _, h => h.elim
theorem EnvL.length {H : Hp} : ∀ {Γ : Gam} {σ : L2.St}, EnvL M B Γ σ H → σ.length = Γ.length
  | [], [], _ => rfl
  | none :: Γ, _ :: σ, h => by rw [List.length_cons, List.length_cons, EnvL.length (Γ := Γ) h]
  | some T :: _, some _ :: _, h => by rw [List.length_cons, List.length_cons, EnvL.length h.2]
  | [], _ :: _, h => h.elim
  | none :: _, [], h => h.elim
  | some _ :: _, [], h => h.elim
  | some _ :: _, none :: _, h => h.elim
theorem EnvL.get {H : Hp} : ∀ {Γ : Gam} {σ : L2.St} {i : Nat} {T : Typ}, EnvL M B Γ σ H → Γ[i]? = some (some T) → ∃ v, σ[i]? = some (some v) ∧ T.p M B v H
  | some T :: _, some v :: _, 0, _, h, e => by simp at e; subst e; exact ⟨v, rfl, h.1⟩
  | none :: _, _ :: _, 0, _, _, e => by simp at e
  | none :: Γ, _ :: σ, i + 1, _, h, e => by
    obtain ⟨v, h1, h2⟩ := EnvL.get (Γ := Γ) (i := i) h (by simpa using e)
    exact ⟨v, by simpa using h1, h2⟩
  | some _ :: _, some _ :: _, i + 1, _, h, e => by
    obtain ⟨v, h1, h2⟩ := EnvL.get (i := i) h.2 (by simpa using e)
    exact ⟨v, by simpa using h1, h2⟩
  | [], [], _, _, _, e => by simp at e
  | [], _ :: _, _, _, h, _ => h.elim
  | none :: _, [], _, _, h, _ => h.elim
  | some _ :: _, [], _, _, h, _ => h.elim
  | some _ :: _, none :: _, _, _, h, _ => h.elim
theorem EnvL.set {H : Hp} {T : Typ} {v : V} (hv : T.p M B v H) : ∀ {Γ : Gam} {σ : L2.St} {i : Nat}, EnvL M B Γ σ H → EnvL M B (Γ.set i (some T)) (σ.set i (some v)) H
  | [], [], _, h => by simpa using h
  | none :: Γ, s :: σ, 0, h => ⟨hv, h⟩
  | some _ :: _, some _ :: _, 0, h => ⟨hv, h.2⟩
  | none :: Γ, none :: σ, i + 1, h => EnvL.set (Γ := Γ) (i := i) hv h
  | none :: Γ, some _ :: σ, i + 1, h => EnvL.set (Γ := Γ) (i := i) hv h
  | some _ :: _, some _ :: _, i + 1, h => ⟨h.1, EnvL.set (i := i) hv h.2⟩
  | [], _ :: _, _, h => h.elim
  | none :: _, [], _, h => h.elim
  | some _ :: _, [], _, h => h.elim
  | some _ :: _, none :: _, _, h => h.elim
theorem EnvL.wipe1 {H : Hp} : ∀ {Γ : Gam} {σ : L2.St} {i : Nat}, EnvL M B Γ σ H → EnvL M B (Γ.set i none) (σ.set i none) H
  | [], [], _, h => by simpa using h
  | none :: Γ, s :: σ, 0, h => h
  | some _ :: _, some _ :: _, 0, h => h.2
  | none :: Γ, none :: σ, i + 1, h => EnvL.wipe1 (Γ := Γ) (i := i) h
  | none :: Γ, some _ :: σ, i + 1, h => EnvL.wipe1 (Γ := Γ) (i := i) h
  | some _ :: _, some _ :: _, i + 1, h => ⟨h.1, EnvL.wipe1 (i := i) h.2⟩
  | [], _ :: _, _, h => h.elim
  | none :: _, [], _, h => h.elim
  | some _ :: _, [], _, h => h.elim
  | some _ :: _, none :: _, _, h => h.elim
def wipeG (Γ : Gam) : List Nat → Gam
  | [] => Γ
  | v :: vs => (wipeG Γ vs).set v none
theorem EnvL.wipe {H : Hp} {Γ : Gam} {σ : L2.St} (h : EnvL M B Γ σ H) : ∀ vs : List Nat, EnvL M B (wipeG Γ vs) (L2.wipe σ vs) H
  | [] => h
  | _ :: vs => EnvL.wipe1 (EnvL.wipe h vs)
/-- slots may be forgotten -/
def Less : Gam → Gam → Prop
  | [], [] => True
  | none :: Γ, _ :: Δ => Less Γ Δ
  | some T :: Γ, some U :: Δ => (∀ M B v H, U.p M B v H → T.p M B v H) ∧ Less Γ Δ
  | _, _ => False
theorem EnvL.less {H : Hp} : ∀ {Γ Δ : Gam} {σ : L2.St}, Less Γ Δ → EnvL M B Δ σ H → EnvL M B Γ σ H
  | [], [], [], _, _ => True.intro
  | none :: Γ, none :: Δ, _ :: σ, l, h => EnvL.less (Γ := Γ) (Δ := Δ) l h
  | none :: Γ, some _ :: Δ, some _ :: σ, l, h => EnvL.less (Γ := Γ) (Δ := Δ) l h.2
  | some _ :: Γ, some _ :: Δ, some _ :: σ, l, h => ⟨l.1 _ _ _ _ h.1, EnvL.less (Γ := Γ) (Δ := Δ) l.2 h.2⟩
  | [], [], _ :: _, _, h => h.elim
  | [], _ :: _, _, l, _ => l.elim
  | none :: _, [], _, l, _ => l.elim
  | some _ :: _, [], _, l, _ => l.elim
  | some _ :: _, none :: _, _, l, _ => l.elim
  | none :: _, none :: _, [], _, h => h.elim
  | none :: _, some _ :: _, [], _, h => h.elim
  | none :: _, some _ :: _, none :: _, _, h => h.elim
  | some _ :: _, some _ :: _, [], _, h => h.elim
  | some _ :: _, some _ :: _, none :: _, _, h => h.elim
theorem Less.refl : ∀ (Γ : Gam), Less Γ Γ
  | [] => True.intro
  | none :: Γ => Less.refl Γ
  | some _ :: Γ => ⟨fun _ _ _ _ h => h, Less.refl Γ⟩
end
end Ew

end
section
set_option Elab.async false
set_option linter.all false
set_option maxRecDepth 100000
set_option maxHeartbeats 1000000
/-! EwB: typed readings. -/
namespace Ew
open PySem PySem.Spec PyProof.Rows L2
abbrev Sx := L2.St
theorem Exm.refl (M B : Addr → Prop) (H : Hp) : Exm M B H H := fun _ _ h => .inl h
theorem Exm.trans {M B : Addr → Prop} {H1 H2 H3 : Hp} (e : Exm M B H1 H2) (f : Exm M B H2 H3) : Exm M B H1 H3 := fun a o h => by
  rcases e a o h with q | ⟨m, ⟨xs, rfl⟩, ⟨ys, q⟩, b⟩
  · exact f a o q |>.imp id fun ⟨m, x, y, b⟩ => ⟨m, x, y, fun z1 z2 => b z1 (by obtain ⟨xs, z3, z4⟩ := z2; rw [h] at z3; cases z3; exact ⟨xs, q, z4⟩)⟩
  · rcases f a _ q with r | ⟨_, _, y, b'⟩
    · exact .inr ⟨m, ⟨xs, rfl⟩, ⟨ys, r⟩, fun z1 z2 => by
        obtain ⟨zs, z3, z4⟩ := b z1 z2
        rw [q] at z3; cases z3
        exact ⟨ys, r, z4⟩⟩
    · exact .inr ⟨m, ⟨xs, rfl⟩, y, fun z1 z2 => b' z1 (b z1 z2)⟩
/-- the world of a def's body: M no data's own, B the boxes, H0 the heap at the entry, Ω what else stands while expressions are evaluated -/
structure Wd where
  M : Addr → Prop
  B : Addr → Prop
  H0 : Hp
  Ω : Hp → Prop
  sub : ∀ a, B a → M a
  kept : ∀ {H H' : Hp}, Ex B H H' → Ω H → Ω H'
structure Cxt (W : Wd) (H : Hp) : Prop where
  box : ∀ a, W.B a → BoxAt H a
  al : ∀ a, W.M a → H a ≠ none
  ex : Ex W.B W.H0 H
  own : W.Ω H
/-- what is made at D is under construction -/
def Wd.ad (W : Wd) (D : Addr) : Wd := ⟨Ew.ad W.M D, W.B, W.H0, W.Ω, fun a h => .inl (W.sub a h), W.kept⟩
abbrev Typ.at (T : Typ) (W : Wd) (v : V) (H : Hp) : Prop := T.p W.M W.B v H
section
variable {W : Wd} {H H' : Hp} {p : Addr}
theorem Ex.toW (e : Ex W.B H H') : Exm W.M W.B H H' := e.toM W.sub
theorem Cxt.up (c : Cxt W H) (e : Ex W.B H H') : Cxt W H' := ⟨fun a h => e.box (c.box a h), fun a h z => c.al a h (e.free z), c.ex.trans e, W.kept e c.own⟩
theorem Cxt.nm (c : Cxt W H) (h : H p = none) : ¬ W.M p := fun b => c.al p b h
theorem Cxt.nb (c : Cxt W H) (h : H p = none) : ¬ W.B p := fun b => c.nm h (W.sub p b)
end
section
variable (W : Wd) (Γ : Gam)
abbrev EnvW (σ : Sx) (H : Hp) : Prop := EnvL W.M W.B Γ σ H
def Ty (te : TE) (T : Typ) : Prop := ∀ σ H, Cxt W H → EnvW W Γ σ H → ∀ Q : VK, (∀ v H1, Ex W.B H H1 → T.at W v H1 → Q v H1) → te σ H Q
def TyA (ta : TA) (Ts : List Typ) : Prop := ∀ σ H, Cxt W H → EnvW W Γ σ H → ∀ Q : List V → Hp → Prop, (∀ vs H1, Ex W.B H H1 → TysV W.M W.B Ts vs H1 → Q vs H1) → ta σ H Q
/-- a new list -/
def TyL (te : TE) (Ts : List Typ) : Prop := ∀ σ H, Cxt W H → EnvW W Γ σ H → ∀ Q : VK, (∀ p xs H1, Ex W.B H H1 → H p = none → H1 p = some (.lst xs) → TysV W.M W.B Ts xs H1 → Q (.ref p) H1) → te σ H Q
def Tt (tt : TT) (φ : Bool → Prop) : Prop := ∀ σ H, Cxt W H → EnvW W Γ σ H → ∀ Q : Bool → Hp → Prop, (∀ b H1, Ex W.B H H1 → φ b → Q b H1) → tt σ H Q
def TyS (ts : TS) (N : Sx → Hp → Prop) (R : V → Hp → Prop) (Bk Ct : Sx → Hp → Prop) : Prop := ∀ σ H, Cxt W H → EnvW W Γ σ H → ∀ D : Ends, (∀ σ' H', Exm W.M W.B H H' → N σ' H' → D.nx σ' H') → (∀ v H', R v H' → D.rt v H') →
  (∀ σ' H', Exm W.M W.B H H' → Bk σ' H' → D.bk σ' H') → (∀ σ' H', Exm W.M W.B H H' → Ct σ' H' → D.ct σ' H') → ts D σ H
def OpT (r : R2) (A C P : Typ) : Prop := ∀ u v H, Cxt W H → A.at W u H → C.at W v H → ∀ Q : VK, (∀ w H1, Ex W.B H H1 → P.at W w H1 → Q w H1) → r u v H Q
def UnT (r : V → Hp → VK → Prop) (A P : Typ) : Prop := ∀ u H, Cxt W H → A.at W u H → ∀ Q : VK, (∀ w H1, Ex W.B H H1 → P.at W w H1 → Q w H1) → r u H Q
def CbT (r : List V → Hp → VK → Prop) (As : List Typ) (P : Typ) : Prop := ∀ us H, Cxt W H → TysV W.M W.B As us H → ∀ Q : VK, (∀ w H1, Ex W.B H H1 → P.at W w H1 → Q w H1) → r us H Q
/-- a new list comes -/
def CbL (r : List V → Hp → VK → Prop) (As Ts : List Typ) : Prop := ∀ us H, Cxt W H → TysV W.M W.B As us H → ∀ Q : VK, (∀ p xs H1, Ex W.B H H1 → H p = none → H1 p = some (.lst xs) → TysV W.M W.B Ts xs H1 → Q (.ref p) H1) → r us H Q
/-- slots by their types, in a world -/
def nE : Sx → Hp → Prop := fun σ H => Cxt W H ∧ EnvW W Γ σ H
end
/-- the same but for Ω -/
structure Wd.Like (W W' : Wd) : Prop where
  m : W'.M = W.M
  b : W'.B = W.B
theorem Wd.Like.refl (W : Wd) : W.Like W := ⟨rfl, rfl⟩
theorem Wd.Like.exm {W W' : Wd} (l : W.Like W') {H H' : Hp} (e : Exm W'.M W'.B H H') : Exm W.M W.B H H' := by rw [← l.m, ← l.b]; exact e
abbrev noN : Sx → Hp → Prop := fun _ _ => False
/-- a tuple, a list of values by their types -/
def tupT (K : PySem.W.Frag) (Ts : List Typ) : Typ := ⟨fun M B v H => ∃ a xs, v = .ref a ∧ SqT K H a xs ∧ TysV M B Ts xs H, fun e ⟨a, xs, h1, h2, h3⟩ => ⟨a, xs, h1, e.sqT h2, h3.up e⟩, fun n ⟨a, xs, h1, h2, h3⟩ => ⟨a, xs, h1, h2, h3.weak n⟩, fun ⟨a, xs, h1, h2, h3⟩ => ⟨a, xs, h1, h2, h3.drop⟩⟩
def lstT (Ts : List Typ) : Typ := ⟨fun M B v H => ∃ a xs, v = .ref a ∧ ¬ M a ∧ H a = some (.lst xs) ∧ TysV M B Ts xs H, fun e ⟨a, xs, h1, h0, h2, h3⟩ => ⟨a, xs, h1, h0, e.keep h2 h0, h3.up e⟩,
  fun n ⟨a, xs, h1, h0, h2, h3⟩ => ⟨a, xs, h1, fun z => z.elim h0 (ne_of_none h2 n), h2, h3.weak n⟩, fun ⟨a, xs, h1, h0, h2, h3⟩ => ⟨a, xs, h1, fun z => h0 (.inl z), h2, h3.drop⟩⟩
section
variable {W : Wd} {Γ : Gam} {K : PySem.W.Frag} {ta tb te tc : TE} {tl tr : TA} {tt tu : TT} {T U A C P : Typ} {Ts Us : List Typ} {r : R2} {φ ψ : Bool → Prop} {i : Nat} {ds es : List PyData} {d e : PyData}
theorem tupT_data {M B : Addr → Prop} {v : V} {H : Hp} (h : (tupT K (ds.map (dt K))).p M B v H) : (dt K (.tuple ds)).p M B v H := by
  obtain ⟨a, xs, rfl, h2, h3⟩ := h
  exact .tup h2 h3.data
theorem data_tupT {M B : Addr → Prop} {v : V} {H : Hp} (h : (dt K (.tuple ds)).p M B v H) : (tupT K (ds.map (dt K))).p M B v H := by
  cases h with
  | tup h2 h3 => exact ⟨_, _, rfl, h2, TysV.ofData h3⟩
theorem lstT_data {M B : Addr → Prop} {v : V} {H : Hp} (h : (lstT (ds.map (dt K))).p M B v H) : (dt K (.list ds)).p M B v H := by
  obtain ⟨a, xs, rfl, h0, h2, h3⟩ := h
  exact .lst h2 h0 h3.data
theorem data_lstT {M B : Addr → Prop} {v : V} {H : Hp} (h : (dt K (.list ds)).p M B v H) : (lstT (ds.map (dt K))).p M B v H := by
  cases h with
  | lst h2 h0 h3 => exact ⟨_, _, rfl, h0, h2, TysV.ofData h3⟩
/-! ### values -/
theorem Ty.sub (h : Ty W Γ te T) (k : ∀ v H, Cxt W H → T.at W v H → U.at W v H) : Ty W Γ te U := fun σ H c g Q q => h σ H c g Q fun v H1 e z => q v H1 e (k v H1 (c.up e) z)
theorem ty_var (h : Γ[i]? = some (some T)) : Ty W Γ (tVar i) T := fun σ H c g Q q => by
  obtain ⟨v, h1, h2⟩ := g.get h
  exact ⟨v, h1, q v H (Ex.refl W.B H) h2⟩
theorem ty_int {n : Int} : Ty W Γ (tC (.int n)) (dt K (.int n)) := fun σ H c g Q q => q _ H (Ex.refl W.B H) (.int n)
theorem ty_bl {b : Bool} : Ty W Γ (tC (.bl b)) (dt K (.bool b)) := fun σ H c g Q q => q _ H (Ex.refl W.B H) (.bl b)
theorem ty_non : Ty W Γ (tC .non) (dt K .none) := fun σ H c g Q q => q _ H (Ex.refl W.B H) .non
theorem ty_str {x : Str} : Ty W Γ (tC (.str x)) (dt K (.str x)) := fun σ H c g Q q => q _ H (Ex.refl W.B H) (.str x)
/-- a constant value: a class, a built-in class -/
theorem ty_c {v : V} : Ty W Γ (tC v) (isV v) := fun σ H c g Q q => q _ H (Ex.refl W.B H) rfl
theorem ty_op (ha : Ty W Γ ta A) (hb : Ty W Γ tb C) (ho : OpT W r A C P) : Ty W Γ (tOp r ta tb) P := fun σ H c g Q q =>
  ha σ H c g _ fun u H1 e1 h1 => hb σ H1 (c.up e1) (g.up e1.toW) _ fun v H2 e2 h2 => ho u v H2 (c.up (e1.trans e2)) (A.up e2.toW h1) h2 Q fun w H3 e3 h3 => q w H3 (e1.trans (e2.trans e3)) h3
theorem ty_un {r : V → Hp → VK → Prop} (ha : Ty W Γ ta A) (ho : UnT W r A P) : Ty W Γ (tUn r ta) P := fun σ H c g Q q =>
  ha σ H c g _ fun u H1 e1 h1 => ho u H1 (c.up e1) h1 Q fun w H3 e3 h3 => q w H3 (e1.trans e3) h3
theorem ty_cb {r : List V → Hp → VK → Prop} (ha : TyA W Γ tl Ts) (ho : CbT W r Ts P) : Ty W Γ (tCB r tl) P := fun σ H c g Q q =>
  ha σ H c g _ fun us H1 e1 h1 => ho us H1 (c.up e1) h1 Q fun w H3 e3 h3 => q w H3 (e1.trans e3) h3
theorem tyl_cb {r : List V → Hp → VK → Prop} (ha : TyA W Γ tl Ts) (ho : CbL W r Ts Us) : TyL W Γ (tCB r tl) Us := fun σ H c g Q q =>
  ha σ H c g _ fun us H1 e1 h1 => ho us H1 (c.up e1) h1 Q fun p xs H3 e3 hp h3 h4 => q p xs H3 (e1.trans e3) (e1.free hp) h3 h4
theorem ty_if (hc : Tt W Γ tt φ) (h1 : φ true → Ty W Γ ta T) (h2 : φ false → Ty W Γ tb T) : Ty W Γ (tIf tt ta tb) T := fun σ H c g Q q =>
  hc σ H c g _ fun b H1 e1 hb => by
    cases b with
    | true => rw [if_pos rfl]; exact h1 hb σ H1 (c.up e1) (g.up e1.toW) Q fun v H2 e2 h => q v H2 (e1.trans e2) h
    | false => rw [if_neg Bool.false_ne_true]; exact h2 hb σ H1 (c.up e1) (g.up e1.toW) Q fun v H2 e2 h => q v H2 (e1.trans e2) h
theorem ty_andV {a b : Bool} (h1 : Ty W Γ ta (dt K (.bool a))) (h2 : a = true → Ty W Γ tb (dt K (.bool b))) : Ty W Γ (tAndV ta tb) (dt K (.bool (a && b))) := fun σ H c g Q q =>
  h1 σ H c g _ fun v H1 e1 hv => by
    cases hv
    refine ⟨a, rfl, ?_⟩
    cases a with
    | true => rw [if_pos rfl]; exact h2 rfl σ H1 (c.up e1) (g.up e1.toW) Q fun v H2 e2 h => q v H2 (e1.trans e2) (by rw [Bool.true_and]; exact h)
    | false => rw [if_neg Bool.false_ne_true]; exact q _ H1 e1 (.bl _)
theorem ty_orV {a b : Bool} (h1 : Ty W Γ ta (dt K (.bool a))) (h2 : a = false → Ty W Γ tb (dt K (.bool b))) : Ty W Γ (tOrV ta tb) (dt K (.bool (a || b))) := fun σ H c g Q q =>
  h1 σ H c g _ fun v H1 e1 hv => by
    cases hv
    refine ⟨a, rfl, ?_⟩
    cases a with
    | true => rw [if_pos rfl]; exact q _ H1 e1 (.bl _)
    | false => rw [if_neg Bool.false_ne_true]; exact h2 rfl σ H1 (c.up e1) (g.up e1.toW) Q fun v H2 e2 h => q v H2 (e1.trans e2) (by rw [Bool.false_or]; exact h)
theorem ty_notV {a : Bool} (h1 : Ty W Γ ta (dt K (.bool a))) : Ty W Γ (tNotV ta) (dt K (.bool (!a))) := fun σ H c g Q q =>
  h1 σ H c g _ fun v H1 e1 hv => by
    cases hv
    exact ⟨a, rfl, q _ H1 e1 (.bl _)⟩
theorem Ty.is (h : Ty W Γ te (dt K d)) (k : d = e) : Ty W Γ te (dt K e) := k ▸ h
/-! ### tests -/
theorem Tt.sub (h : Tt W Γ tt φ) (k : ∀ b, φ b → ψ b) : Tt W Γ tt ψ := fun σ H c g Q q => h σ H c g Q fun b H1 e z => q b H1 e (k b z)
theorem tt_B {b : Bool} (h : Ty W Γ te (dt K (.bool b))) : Tt W Γ (tB te) (· = b) := fun σ H c g Q q => h σ H c g _ fun v H1 e hv => by
  cases hv
  exact ⟨b, rfl, q b H1 e rfl⟩
theorem tt_test {b : Bool} (h : Ty W Γ te (dt K (.bool b))) : Tt W Γ (tTest te) (· = b) := fun σ H c g Q q => h σ H c g _ fun v H1 e hv => by
  cases hv
  exact ⟨b, rfl, q b H1 e rfl⟩
/-- a truth value of which something is known -/
def boT (K : PySem.W.Frag) (φ : Bool → Prop) : Typ := exT fun b : Bool => gd (φ b) (dt K (.bool b))
theorem tt_BE (h : Ty W Γ te (boT K φ)) : Tt W Γ (tB te) φ := fun σ H c g Q q => h σ H c g _ fun v H1 e ⟨b, h1, h2⟩ => by
  cases h2
  exact ⟨b, rfl, q b H1 e h1⟩
theorem tt_testE (h : Ty W Γ te (boT K φ)) : Tt W Γ (tTest te) φ := fun σ H c g Q q => h σ H c g _ fun v H1 e ⟨b, h1, h2⟩ => by
  cases h2
  exact ⟨b, rfl, q b H1 e h1⟩
theorem tt_and (h1 : Tt W Γ tt φ) (h2 : φ true → Tt W Γ tu ψ) : Tt W Γ (tAnd tt tu) (fun b => (b = false ∧ φ false) ∨ (φ true ∧ ψ b)) := fun σ H c g Q q =>
  h1 σ H c g _ fun b H1 e1 hb => by
    cases b with
    | true => rw [if_pos rfl]; exact h2 hb σ H1 (c.up e1) (g.up e1.toW) Q fun b H2 e2 h => q b H2 (e1.trans e2) (.inr ⟨hb, h⟩)
    | false => rw [if_neg Bool.false_ne_true]; exact q false H1 e1 (.inl ⟨rfl, hb⟩)
theorem tt_or (h1 : Tt W Γ tt φ) (h2 : φ false → Tt W Γ tu ψ) : Tt W Γ (tOr tt tu) (fun b => (b = true ∧ φ true) ∨ (φ false ∧ ψ b)) := fun σ H c g Q q =>
  h1 σ H c g _ fun b H1 e1 hb => by
    cases b with
    | true => rw [if_pos rfl]; exact q true H1 e1 (.inl ⟨rfl, hb⟩)
    | false => rw [if_neg Bool.false_ne_true]; exact h2 hb σ H1 (c.up e1) (g.up e1.toW) Q fun b H2 e2 h => q b H2 (e1.trans e2) (.inr ⟨hb, h⟩)
theorem tt_andB {a b : Bool} (h1 : Tt W Γ tt (· = a)) (h2 : a = true → Tt W Γ tu (· = b)) : Tt W Γ (tAnd tt tu) (· = (a && b)) :=
  (tt_and h1 fun z => h2 z.symm).sub fun c z => by
    rcases z with ⟨rfl, z⟩ | ⟨z, rfl⟩
    · rw [← z]; rfl
    · rw [← z]; rfl
theorem tt_orB {a b : Bool} (h1 : Tt W Γ tt (· = a)) (h2 : a = false → Tt W Γ tu (· = b)) : Tt W Γ (tOr tt tu) (· = (a || b)) :=
  (tt_or h1 fun z => h2 z.symm).sub fun c z => by
    rcases z with ⟨rfl, z⟩ | ⟨z, rfl⟩
    · rw [← z]; rfl
    · rw [← z]; rfl
theorem tt_not (h1 : Tt W Γ tt φ) : Tt W Γ (tNot tt) (fun b => φ (!b)) := fun σ H c g Q q => h1 σ H c g _ fun b H1 e1 hb => q (!b) H1 e1 (by show φ (!!b); rw [Bool.not_not]; exact hb)
theorem tt_notB {a : Bool} (h1 : Tt W Γ tt (· = a)) : Tt W Γ (tNot tt) (· = !a) := (tt_not h1).sub fun b z => by rw [← z, Bool.not_not]
theorem Tt.is {a b : Bool} (h : Tt W Γ tt (· = a)) (k : a = b) : Tt W Γ tt (· = b) := k ▸ h
/-! ### arguments, displays -/
theorem tya_nil : TyA W Γ tNil [] := fun σ H c g Q q => q [] H (Ex.refl W.B H) True.intro
theorem tya_cons (h : Ty W Γ te T) (hr : TyA W Γ tr Ts) : TyA W Γ (tCons te tr) (T :: Ts) := fun σ H c g Q q =>
  h σ H c g _ fun v H1 e1 hv => hr σ H1 (c.up e1) (g.up e1.toW) _ fun vs H2 e2 hvs => q (v :: vs) H2 (e1.trans e2) ⟨T.up e2.toW hv, hvs⟩
theorem TyA.data (h : TyA W Γ tl Ts) (k : Ts = ds.map (dt K)) : TyA W Γ tl (ds.map (dt K)) := k ▸ h
theorem sz_le {n : Nat} (h : n ≤ 1000000) : n ≤ sizeLine := Nat.le_trans h (by decide)
theorem sz_lt {n : Nat} (h : n < 1000000) : n < sizeLine := Nat.lt_of_lt_of_le h (by decide)
theorem ty_tup (h : TyA W Γ tl Ts) (hz : Ts.length ≤ 1000000) : Ty W Γ (tTup tl) (tupT K Ts) := fun σ H c g Q q =>
  h σ H c g _ fun vs H1 e1 hv => ⟨by rw [hv.length]; exact sz_le hz, fun p hp => q _ _ (e1.trans (Ex.new hp)) ⟨p, vs, rfl, SqT.of upd_same, hv.up (Ex.new hp).toW⟩⟩
theorem tyl_lst (h : TyA W Γ tl Ts) (hz : Ts.length ≤ 1000000) : TyL W Γ (tLst tl) Ts := fun σ H c g Q q =>
  h σ H c g _ fun vs H1 e1 hv => ⟨by rw [hv.length]; exact sz_le hz, fun p hp => q p vs _ (e1.trans (Ex.new hp)) (e1.free hp) upd_same (hv.up (Ex.new hp).toW)⟩
theorem TyL.ty (h : TyL W Γ te Ts) : Ty W Γ te (lstT Ts) := fun σ H c g Q q => h σ H c g Q fun p xs H1 e hp h1 h2 => q _ H1 e ⟨p, xs, rfl, c.nm hp, h1, h2⟩
theorem TyL.data (h : TyL W Γ te (ds.map (dt K))) : Ty W Γ te (dt K (.list ds)) := h.ty.sub fun _ _ _ => lstT_data
theorem Ty.tup (h : Ty W Γ te (tupT K (ds.map (dt K)))) : Ty W Γ te (dt K (.tuple ds)) := h.sub fun _ _ _ => tupT_data
theorem ty_tupD (h : TyA W Γ tl (ds.map (dt K))) (hz : ds.length ≤ 1000000) : Ty W Γ (tTup tl) (dt K (.tuple ds)) := (ty_tup h (by rw [List.length_map]; exact hz)).tup
theorem ty_lstD (h : TyA W Γ tl (ds.map (dt K))) (hz : ds.length ≤ 1000000) : Ty W Γ (tLst tl) (dt K (.list ds)) := (tyl_lst h (by rw [List.length_map]; exact hz)).data
/-! ### statements -/
variable {ts tu' : TS} {N N' : Sx → Hp → Prop} {R : V → Hp → Prop} {Bk Ct : Sx → Hp → Prop} {W' : Wd}
theorem tys_seq {tw : TS} (h1 : TyS W Γ ts N R Bk Ct) (h2 : ∀ σ H, N σ H → ∃ (W' : Wd) (Γ' : Gam), W.Like W' ∧ nE W' Γ' σ H ∧ TyS W' Γ' tw N' R Bk Ct) : TyS W Γ (tSeq ts tw) N' R Bk Ct := fun σ H c g D dn dr db dc =>
  h1 σ H c g { D with nx := tw D } (fun σ' H' e n => by
    obtain ⟨W', Γ', l, g', k⟩ := h2 σ' H' n
    exact k σ' H' g'.1 g'.2 D (fun σ2 H2 e2 => dn σ2 H2 (e.trans (l.exm e2))) dr (fun σ2 H2 e2 => db σ2 H2 (e.trans (l.exm e2))) (fun σ2 H2 e2 => dc σ2 H2 (e.trans (l.exm e2)))) dr db dc
theorem tys_seqE {Γ' : Gam} {tw : TS} (h1 : TyS W Γ ts (nE W' Γ') R Bk Ct) (h2 : TyS W' Γ' tw N' R Bk Ct) (l : W.Like W' := by exact ⟨rfl, rfl⟩) : TyS W Γ (tSeq ts tw) N' R Bk Ct := tys_seq h1 fun σ H n => ⟨W', Γ', l, n, h2⟩
theorem tys_seqX {α : Type} {W' : α → Wd} {Γ' : α → Gam} {tw : TS} (h1 : TyS W Γ ts (fun σ H => ∃ x, nE (W' x) (Γ' x) σ H) R Bk Ct) (h2 : ∀ x, TyS (W' x) (Γ' x) tw N' R Bk Ct) (l : ∀ x, W.Like (W' x) := by exact fun _ => ⟨rfl, rfl⟩) : TyS W Γ (tSeq ts tw) N' R Bk Ct :=
  tys_seq h1 fun σ H ⟨x, n⟩ => ⟨W' x, Γ' x, l x, n, h2 x⟩
theorem TyS.imp (h : TyS W Γ ts N R Bk Ct) (k : ∀ σ H, N σ H → N' σ H) : TyS W Γ ts N' R Bk Ct := fun σ H c g D dn dr db dc => h σ H c g D (fun σ' H' e n => dn σ' H' e (k σ' H' n)) dr db dc
theorem TyS.never (h : TyS W Γ ts noN R Bk Ct) : TyS W Γ ts N R Bk Ct := h.imp fun _ _ z => z.elim
theorem TyS.less {Δ : Gam} (h : TyS W Γ ts N R Bk Ct) (l : Less Γ Δ) : TyS W Δ ts N R Bk Ct := fun σ H c g => h σ H c (EnvL.less l g)
theorem tys_next : TyS W Γ tNext (nE W Γ) R Bk Ct := fun σ H c g D dn _ _ _ => dn σ H (Exm.refl _ _ _) ⟨c, g⟩
theorem tys_cont : TyS W Γ tCont noN R Bk (nE W Γ) := fun σ H c g D _ _ _ dc => dc σ H (Exm.refl _ _ _) ⟨c, g⟩
theorem tys_break : TyS W Γ tBreak noN R (nE W Γ) Ct := fun σ H c g D _ _ db _ => db σ H (Exm.refl _ _ _) ⟨c, g⟩
theorem tys_set (h : Ty W Γ te T) : TyS W Γ (tAsg te (gName i)) (nE W (Γ.set i (some T))) R Bk Ct := fun σ H c g D dn _ _ _ =>
  h σ H c g _ fun v H1 e hv => dn _ H1 e.toW ⟨c.up e, EnvL.set hv (g.up e.toW)⟩
theorem tys_setX {α : Type} {A : α → Typ} (h : Ty W Γ te (exT A)) : TyS W Γ (tAsg te (gName i)) (fun σ H => ∃ x, nE W (Γ.set i (some (A x))) σ H) R Bk Ct := fun σ H c g D dn _ _ _ =>
  h σ H c g _ fun v H1 e ⟨x, hv⟩ => dn _ H1 e.toW ⟨x, c.up e, EnvL.set hv (g.up e.toW)⟩
theorem tys_ret (h : Ty W Γ te T) (k : ∀ v H, Cxt W H → T.at W v H → R v H) : TyS W Γ (tRet te) noN R Bk Ct := fun σ H c g D _ dr _ _ => h σ H c g _ fun v H1 e hv => dr v H1 (k v H1 (c.up e) hv)
theorem tys_drop (h : Ty W Γ te T) : TyS W Γ (tDrop te) (nE W Γ) R Bk Ct := fun σ H c g D dn _ _ _ => h σ H c g _ fun v H1 e _ => dn σ H1 e.toW ⟨c.up e, g.up e.toW⟩
theorem tys_if (hc : Tt W Γ tt φ) (h1 : φ true → TyS W Γ ts N R Bk Ct) (h2 : φ false → TyS W Γ tu' N R Bk Ct) : TyS W Γ (tIfS tt ts tu') N R Bk Ct := fun σ H c g D dn dr db dc =>
  hc σ H c g _ fun b H1 e hb => by
    have f := e.toW
    cases b with
    | true => rw [if_pos rfl]; exact h1 hb σ H1 (c.up e) (g.up f) D (fun σ2 H2 e2 => dn σ2 H2 (f.trans e2)) dr (fun σ2 H2 e2 => db σ2 H2 (f.trans e2)) (fun σ2 H2 e2 => dc σ2 H2 (f.trans e2))
    | false => rw [if_neg Bool.false_ne_true]; exact h2 hb σ H1 (c.up e) (g.up f) D (fun σ2 H2 e2 => dn σ2 H2 (f.trans e2)) dr (fun σ2 H2 e2 => db σ2 H2 (f.trans e2)) (fun σ2 H2 e2 => dc σ2 H2 (f.trans e2))
/-- an if that returns, then the rest -/
theorem tys_guard {tw : TS} (hc : Tt W Γ tt φ) (h1 : φ true → TyS W Γ ts noN R Bk Ct) (h2 : φ false → TyS W Γ tw N R Bk Ct) : TyS W Γ (tSeq (tIfS tt ts tNext) tw) N R Bk Ct := fun σ H c g D dn dr db dc =>
  hc σ H c g _ fun b H1 e hb => by
    have f := e.toW
    cases b with
    | true => rw [if_pos rfl]; exact h1 hb σ H1 (c.up e) (g.up f) _ (fun σ2 H2 _ z => z.elim) dr (fun σ2 H2 e2 => db σ2 H2 (f.trans e2)) (fun σ2 H2 e2 => dc σ2 H2 (f.trans e2))
    | false => rw [if_neg Bool.false_ne_true]; exact h2 hb σ H1 (c.up e) (g.up f) D (fun σ2 H2 e2 => dn σ2 H2 (f.trans e2)) dr (fun σ2 H2 e2 => db σ2 H2 (f.trans e2)) (fun σ2 H2 e2 => dc σ2 H2 (f.trans e2))
end
/-! ### promises -/
/-- for every x with C: arguments of the types A, a value of the type R; the boxes of B may turn -/
def spT {α : Type} (C : α → Prop) (A : α → List Typ) (R : α → Typ) : Sp := fun vs H Q _ => ∃ (M B : Addr → Prop) (x : α), (∀ a, B a → M a) ∧ (∀ a, B a → BoxAt H a) ∧ (∀ a, M a → H a ≠ none) ∧ C x ∧ TysV M B (A x) vs H ∧ ∀ v H', Ex B H H' → (R x).p M B v H' → Q v H'
section
variable {W : Wd} {Γ : Gam} {tl : TA} {α : Type} {C : α → Prop} {A : α → List Typ} {R : α → Typ} {E : XK}
theorem ty_call (x : α) (hC : C x) (h : TyA W Γ tl (A x)) : Ty W Γ (tCall (spT C A R) [] E tl) (R x) := fun σ H c g Q q =>
  h σ H c g _ fun vs H1 e1 hv => ⟨W.M, W.B, x, W.sub, (c.up e1).box, (c.up e1).al, hC, by rw [List.append_nil]; exact hv, fun v H2 e2 h2 => q v H2 (e1.trans e2) h2⟩
end
/-- a def's first world -/
def Wd.base (M B : Addr → Prop) (H : Hp) (s : ∀ a, B a → M a) : Wd := ⟨M, B, H, fun _ => True, s, fun _ _ => True.intro⟩
section
variable {P : Program} {w : World} {K : PySem.W.Frag} {mg : Str → Option Value} {base : Heap}
theorem okN {x qual : Str} {st : Stmt} {f : Addr} {fd : FuncData} {N ps : List Str} {k : Nat} {sp : Sp} (F : Fun K x qual st f fd) (S : FnScope N ps (defScope st)) (len : ∀ vs H Q E, sp vs H Q E → vs.length = ps.length)
    (hbody : ∀ (cdv : Value) (A : Around) (outer : List Env) (s : Shared) (H : Hp) (vs : List V) (Q : VK) (E : XK), Room k (A.deeper (envOfC qual (defScope st) s.heap.objs.size f cdv)) → sp vs H Q E →
      ∃ t, PSs (cxOf (L2.CX P w) P w K mg base N qual (defScope st) f cdv A outer s H E).nox (defBody st) t ∧ t { nx := fun _ H' => Q .non H', rt := Q } (L2.start N vs) H) : FnOk P w K mg base (L2.CX P w) (k + 1) f fd ps sp :=
  F.okX S len fun cdv A outer s H vs Q E hr hs => by
    obtain ⟨t, h, q⟩ := hbody cdv A outer s H vs Q E hr hs
    exact ⟨t, h.nox, q⟩
theorem env_start {M B : Addr → Prop} {H : Hp} : ∀ {Ts : List Typ} {vs : List V}, TysV M B Ts vs H → ∀ n, EnvL M B (Ts.map some ++ List.replicate n none) (vs.map some ++ List.replicate n none) H
  | [], [], _, n => by
    induction n with
    | zero => exact True.intro
    | succ n ih => exact ih
  | _ :: _, _ :: _, h, n => ⟨h.1, env_start h.2 n⟩
  | [], _ :: _, h, _ => h.elim
  | _ :: _, [], h, _ => h.elim
/-- what a def hands back -/
def rW (W : Wd) (T : Typ) : V → Hp → Prop := fun v H => Ex W.B W.H0 H ∧ T.at W v H
/-- a def by its typed body -/
theorem fn_ty {x qual : Str} {st : Stmt} {f : Addr} {fd : FuncData} {N ps : List Str} {k : Nat} {α : Type} {C : α → Prop} {A : α → List Typ} {R : α → Typ} (F : Fun K x qual st f fd) (S : FnScope N ps (defScope st))
    (len : ∀ x, C x → (A x).length = ps.length)
    (hbody : ∀ (cdv : Value) (Ar : Around) (outer : List Env) (s : Shared) (H : Hp) (E : XK), Room k (Ar.deeper (envOfC qual (defScope st) s.heap.objs.size f cdv)) →
      ∃ t, PSs (cxOf (L2.CX P w) P w K mg base N qual (defScope st) f cdv Ar outer s H E).nox (defBody st) t ∧ ∀ (W : Wd) (x : α), C x → TyS W ((A x).map some ++ List.replicate (N.length - ps.length) none) t (fun _ H' => rW W (R x) .non H') (rW W (R x)) noN noN) :
    FnOk P w K mg base (L2.CX P w) (k + 1) f fd ps (spT C A R) := by
  refine okN F S (fun vs H Q E h => ?_) fun cdv Ar outer s H vs Q E hr h => ?_
  · obtain ⟨M, B, x, _, _, _, hC, h, _⟩ := h
    rw [h.length, len x hC]
  · obtain ⟨M, B, x, hs, hb, ha, hC, h, q⟩ := h
    obtain ⟨t, ht, k⟩ := hbody cdv Ar outer s H E hr
    refine ⟨t, ht, k (Wd.base M B H hs) x hC (L2.start N vs) H ⟨hb, ha, Ex.refl B H, True.intro⟩ ?_ _ (fun σ' H' _ n => q _ _ n.1 n.2) (fun v H' n => q _ _ n.1 n.2) (fun _ _ _ z => z.elim) (fun _ _ _ z => z.elim)⟩
    unfold L2.start
    have e : vs.length = ps.length := by rw [h.length, len x hC]
    rw [e]
    exact env_start h _
theorem tys_retW {W : Wd} {Γ : Gam} {te : TE} {T : Typ} {Bk Ct : Sx → Hp → Prop} (h : Ty W Γ te T) : TyS W Γ (tRet te) noN (rW W T) Bk Ct := tys_ret h fun v H c k => ⟨c.ex, k⟩
end
end Ew

end
section
set_option Elab.async false
set_option linter.all false
set_option maxRecDepth 100000
set_option maxHeartbeats 1000000
/-! EwC: operators, built-in calls, walks, comprehensions, loops, by types. -/
namespace Ew
open PySem PySem.Spec PyProof.Rows L2
/-! ### what may be one of several -/
theorem CallR.or {X : Cx} {f : Value} {r r' : List V → Hp → VK → Prop} (h : CallR X f r) (h' : CallR X f r') : CallR X f (fun xs H Q => r xs H Q ∨ r' xs H Q) := by
  intro pins s σ H xs us Q I rx q
  rcases q with q | q
  · exact h pins s σ H xs us Q I rx q
  · exact h' pins s σ H xs us Q I rx q
abbrev rAddI : R2 := rI0 fun i j => .int (i + j)
abbrev rAddStr : R2 := fun x y H Q => ∃ i j, x = .str i ∧ y = .str j ∧ i.length + j.length ≤ sizeLine ∧ Q (.str (i ++ j)) H
/-- a + b: ints, tuples, lists, texts -/
def rAddA (K : PySem.W.Frag) : R2 := fun x y H Q => rAddI x y H Q ∨ rCatA K x y H Q ∨ rCat x y H Q ∨ rAddStr x y H Q
theorem op_addA {X : Cx} : OpR X (binaryOp .Add) (rAddA X.K) := op_add.or (op_catA.or (op_cat.or op_add_str))
/-- a * b: ints (below 2 ^ 64 one of them; together below a million bits) -/
def rMulA : R2 := fun x y H Q => rI CMul (fun i j => .int (i * j)) x y H Q ∨ rI CMulW (fun i j => .int (i * j)) x y H Q
theorem op_mulA {X : Cx} : OpR X (binaryOp .Mult) rMulA := op_mul.or op_mulW
/-- a // b -/
def rDivA : R2 := fun x y H Q => rI CDivW (fun i j => .int (i / j)) x y H Q ∨ rI CDivN (fun i j => .int (i.fdiv j)) x y H Q
theorem op_divA {X : Cx} : OpR X (binaryOp .FloorDiv) rDivA := op_fdivW.or op_fdivN
/-- == at any depth -/
def rEqA (K : PySem.W.Frag) : R2 := fun x y H Q => rEq x y H Q ∨ rEqD K x y H Q
theorem op_eqA {X : Cx} (hu : X.A.units + 64 < cLine) : OpR X (compareOp .Eq) (rEqA X.K) := op_eq.or (op_eqD hu)
def rNeA (K : PySem.W.Frag) : R2 := fun x y H Q => rNe x y H Q ∨ rNeD K x y H Q
theorem op_neA {X : Cx} (hu : X.A.units + 64 < cLine) : OpR X (compareOp .NotEq) (rNeA X.K) := op_ne.or (op_neD hu)
/-- len -/
def rLen (K : PySem.W.Frag) : List V → Hp → VK → Prop := fun xs H Q => ∃ x n, xs = [x] ∧ LenV K x H n ∧ Q (.int n) H
def rLenD : List V → Hp → VK → Prop := fun xs H Q => ∃ d kvs, xs = [.ref d] ∧ H d = some (.dK kvs) ∧ Q (.int (kvs.length : Nat)) H

section
variable {W : Wd} {Γ : Gam} {K : PySem.W.Frag} {T U A C P : Typ} {Ts Us : List Typ} {i j : Int} {ds es : List PyData} {d e : PyData} {B : Addr → Prop}
theorem opt_I0 {g : Int → Int → V} {r : PyData} (h : ∀ M H, Rp M K H (g i j) r) : OpT W (rI0 g) (dt K (.int i)) (dt K (.int j)) (dt K r) := fun u v H c hu hv Q q => by
  cases hu
  cases hv
  exact ⟨i, j, rfl, rfl, q _ H (Ex.refl W.B H) (h _ _)⟩
theorem opt_I {D : Int → Int → Prop} {g : Int → Int → V} {r : PyData} (hd : D i j) (h : ∀ M H, Rp M K H (g i j) r) : OpT W (rI D g) (dt K (.int i)) (dt K (.int j)) (dt K r) := fun u v H c hu hv Q q => by
  cases hu
  cases hv
  exact ⟨i, j, rfl, rfl, hd, q _ H (Ex.refl W.B H) (h _ _)⟩
theorem opt_add : OpT W (rAddA K) (dt K (.int i)) (dt K (.int j)) (dt K (.int (i + j))) := fun u v H c hu hv Q q => .inl (opt_I0 (fun _ _ => .int _) u v H c hu hv Q q)
theorem opt_sub : OpT W (rI0 fun i j => .int (i - j)) (dt K (.int i)) (dt K (.int j)) (dt K (.int (i - j))) := opt_I0 fun _ _ => .int _
theorem opt_mul (h : CMul i j) : OpT W rMulA (dt K (.int i)) (dt K (.int j)) (dt K (.int (i * j))) := fun u v H c hu hv Q q => .inl (opt_I h (fun _ _ => .int _) u v H c hu hv Q q)
theorem opt_mulW (h : CMulW i j) : OpT W rMulA (dt K (.int i)) (dt K (.int j)) (dt K (.int (i * j))) := fun u v H c hu hv Q q => .inr (opt_I h (fun _ _ => .int _) u v H c hu hv Q q)
theorem opt_div (h : CDivW i j) : OpT W rDivA (dt K (.int i)) (dt K (.int j)) (dt K (.int (i / j))) := fun u v H c hu hv Q q => .inl (opt_I h (fun _ _ => .int _) u v H c hu hv Q q)
theorem opt_mod (h : 0 < j) : OpT W (rI (fun _ j => 0 < j) fun i j => .int (i % j)) (dt K (.int i)) (dt K (.int j)) (dt K (.int (i % j))) := opt_I h fun _ _ => .int _
theorem opt_pow (h : CPow i j) : OpT W (rI CPow fun i j => .int (i ^ j.toNat)) (dt K (.int i)) (dt K (.int j)) (dt K (.int (i ^ j.toNat))) := opt_I h fun _ _ => .int _
theorem opt_lt : OpT W (rI0 fun i j => .bl (decide (i < j))) (dt K (.int i)) (dt K (.int j)) (dt K (.bool (decide (i < j)))) := opt_I0 fun _ _ => .bl _
theorem opt_le : OpT W (rI0 fun i j => .bl (decide (i ≤ j))) (dt K (.int i)) (dt K (.int j)) (dt K (.bool (decide (i ≤ j)))) := opt_I0 fun _ _ => .bl _
theorem opt_gt : OpT W (rI0 fun i j => .bl (decide (j < i))) (dt K (.int i)) (dt K (.int j)) (dt K (.bool (decide (j < i)))) := opt_I0 fun _ _ => .bl _
theorem opt_ge : OpT W (rI0 fun i j => .bl (decide (j ≤ i))) (dt K (.int i)) (dt K (.int j)) (dt K (.bool (decide (j ≤ i)))) := opt_I0 fun _ _ => .bl _
theorem unt_neg : UnT W (rU fun i => .int (-i)) (dt K (.int i)) (dt K (.int (-i))) := fun u H c hu Q q => by
  cases hu
  exact ⟨i, rfl, q _ H (Ex.refl W.B H) (.int _)⟩
theorem opt_catT (hz : ds.length + es.length ≤ 1000000) : OpT W (rAddA K) (dt K (.tuple ds)) (dt K (.tuple es)) (dt K (.tuple (ds ++ es))) := fun u v H c hu hv Q q => by
  cases hu with
  | @tup a xs _ h1 h2 =>
    cases hv with
    | @tup b ys _ h3 h4 =>
      refine .inr (.inl ⟨a, b, xs, ys, rfl, rfl, h1, h3, by rw [h2.length, h4.length]; exact sz_le hz, fun e => ?_, fun _ e => ?_, fun _ _ p hp => ?_⟩)
      · subst e
        cases h2
        exact q _ H (Ex.refl W.B H) (.tup h3 h4)
      · subst e
        cases h4
        rw [List.append_nil] at q
        exact q _ H (Ex.refl W.B H) (.tup h1 h2)
      · exact q _ _ (Ex.new hp) (.tup (SqT.of upd_same) (RpA.up (Ex.new (B := W.B) hp).toW (h2.append h4)))
theorem opt_catL (hz : Ts.length + Us.length ≤ 1000000) : OpT W (rAddA K) (lstT Ts) (lstT Us) (lstT (Ts ++ Us)) := fun u v H c hu hv Q q => by
  obtain ⟨a, xs, rfl, ha, h1, h2⟩ := hu
  obtain ⟨b, ys, rfl, hb, h3, h4⟩ := hv
  exact .inr (.inr (.inl ⟨a, b, xs, ys, rfl, rfl, h1, h3, by rw [h2.length, h4.length]; exact sz_le hz, fun p hp => q _ _ (Ex.new hp) ⟨p, xs ++ ys, rfl, c.nm hp, upd_same, (h2.append h4).up (Ex.new (B := W.B) hp).toW⟩⟩))
theorem opt_catS {x y : Str} (hz : x.length + y.length ≤ 1000000) : OpT W (rAddA K) (dt K (.str x)) (dt K (.str y)) (dt K (.str (x ++ y))) := fun u v H c hu hv Q q => by
  cases hu
  cases hv
  exact .inr (.inr (.inr ⟨x, y, rfl, rfl, sz_le hz, q _ H (Ex.refl W.B H) (.str _)⟩))
/-! ### == -/
mutual
theorem Rp.dp {M : Addr → Prop} {H : Hp} : ∀ {v : V} {d : PyData}, Rp M K H v d → d.canLay0 = true → Dp K H v d
  | _, _, .non, _ => .non
  | _, _, .bl b, _ => .bl b
  | _, _, .int i, _ => .int i
  | _, _, .str x, _ => .str x
  | _, _, .lst h _ r, z => .lst (SqL.of h) (RpA.dp r (by simpa [PyData.canLay0] using z))
  | _, _, .tup h r, z => .tup h (RpA.dp r (by simpa [PyData.canLay0] using z))
  | _, _, .dic _ _, z => by simp [PyData.canLay0] at z
theorem RpA.dp {M : Addr → Prop} {H : Hp} : ∀ {v : List V} {d : List PyData}, RpA M K H v d → PyData.canLayAll0 d = true → DpAll K H v d
  | _, _, .nil, _ => .nil
  | _, _, .cons h r, z => by
    have z' := Bool.and_eq_true_iff.mp (show (PyData.canLay0 _ && PyData.canLayAll0 _) = true by simpa [PyData.canLayAll0] using z)
    exact .cons (Rp.dp h z'.1) (RpA.dp r z'.2)
end
theorem opt_eqD (hd : SeqAt.shaped d = true) (he : SeqAt.shaped e = true) : OpT W (rEqA K) (dt K d) (dt K e) (dt K (.bool (PyData.eqv d e))) := fun u v H c hu hv Q q =>
  .inr ⟨d, e, Rp.dp hu (SeqAt.canLay_of_shaped hd), Rp.dp hv (SeqAt.canLay_of_shaped he), hd, he, q _ H (Ex.refl W.B H) (.bl _)⟩
theorem opt_neD (hd : SeqAt.shaped d = true) (he : SeqAt.shaped e = true) : OpT W (rNeA K) (dt K d) (dt K e) (dt K (.bool (!PyData.eqv d e))) := fun u v H c hu hv Q q =>
  .inr ⟨d, e, Rp.dp hu (SeqAt.canLay_of_shaped hd), Rp.dp hv (SeqAt.canLay_of_shaped he), hd, he, q _ H (Ex.refl W.B H) (.bl _)⟩
theorem opt_eqI : OpT W (rEqA K) (dt K (.int i)) (dt K (.int j)) (dt K (.bool (decide (i = j)))) := fun u v H c hu hv Q q => by
  cases hu
  cases hv
  refine .inl ⟨rfl, q _ H (Ex.refl W.B H) ?_⟩
  have e : decide (V.int i = V.int j) = decide (i = j) := by rw [dec_int, Bool.beq_eq_decide_eq]
  rw [e]; exact .bl _
theorem opt_neI : OpT W (rNeA K) (dt K (.int i)) (dt K (.int j)) (dt K (.bool (!decide (i = j)))) := fun u v H c hu hv Q q => by
  cases hu
  cases hv
  refine .inl ⟨rfl, q _ H (Ex.refl W.B H) ?_⟩
  have e : decide (V.int i = V.int j) = decide (i = j) := by rw [dec_int, Bool.beq_eq_decide_eq]
  rw [e]; exact .bl _
theorem opt_eqB {a b : Bool} : OpT W (rEqA K) (dt K (.bool a)) (dt K (.bool b)) (dt K (.bool (decide (a = b)))) := fun u v H c hu hv Q q => by
  cases hu
  cases hv
  refine .inl ⟨rfl, q _ H (Ex.refl W.B H) ?_⟩
  have e : decide (V.bl a = V.bl b) = decide (a = b) := by rw [dec_bl, Bool.beq_eq_decide_eq]
  rw [e]; exact .bl _
theorem opt_neB {a b : Bool} : OpT W (rNeA K) (dt K (.bool a)) (dt K (.bool b)) (dt K (.bool (!decide (a = b)))) := fun u v H c hu hv Q q => by
  cases hu
  cases hv
  refine .inl ⟨rfl, q _ H (Ex.refl W.B H) ?_⟩
  have e : decide (V.bl a = V.bl b) = decide (a = b) := by rw [dec_bl, Bool.beq_eq_decide_eq]
  rw [e]; exact .bl _
theorem opt_eqS {a b : Str} : OpT W (rEqA K) (dt K (.str a)) (dt K (.str b)) (dt K (.bool (decide (a = b)))) := fun u v H c hu hv Q q => by
  cases hu
  cases hv
  refine .inl ⟨rfl, q _ H (Ex.refl W.B H) ?_⟩
  have e : decide (V.str a = V.str b) = decide (a = b) := by rw [dec_str, Bool.beq_eq_decide_eq]
  rw [e]; exact .bl _
theorem opt_neS {a b : Str} : OpT W (rNeA K) (dt K (.str a)) (dt K (.str b)) (dt K (.bool (!decide (a = b)))) := fun u v H c hu hv Q q => by
  cases hu
  cases hv
  refine .inl ⟨rfl, q _ H (Ex.refl W.B H) ?_⟩
  have e : decide (V.str a = V.str b) = decide (a = b) := by rw [dec_str, Bool.beq_eq_decide_eq]
  rw [e]; exact .bl _
/-! ### is -/
def isNoneD : PyData → Bool
  | .none => true
  | _ => false
theorem Rp.isN {M : Addr → Prop} {H : Hp} {v : V} (h : Rp M K H v d) : decide (v = .non) = isNoneD d := by
  cases h <;> rfl
theorem opt_isN : OpT W (fun x y H Q => y = .non ∧ Q (.bl (decide (x = .non))) H) (dt K d) (dt K .none) (dt K (.bool (isNoneD d))) := fun u v H c hu hv Q q => by
  cases hv
  exact ⟨rfl, q _ H (Ex.refl W.B H) (by rw [Rp.isN hu]; exact .bl _)⟩
theorem opt_notN : OpT W (fun x y H Q => y = .non ∧ Q (.bl (!decide (x = .non))) H) (dt K d) (dt K .none) (dt K (.bool (!isNoneD d))) := fun u v H c hu hv Q q => by
  cases hv
  exact ⟨rfl, q _ H (Ex.refl W.B H) (by rw [Rp.isN hu]; exact .bl _)⟩
theorem opt_isB {a b : Bool} : OpT W rIsB (dt K (.bool a)) (dt K (.bool b)) (dt K (.bool (decide (a = b)))) := fun u v H c hu hv Q q => by
  cases hu
  cases hv
  exact ⟨a, b, rfl, rfl, q _ H (Ex.refl W.B H) (.bl _)⟩
/-! ### items -/
theorem atI_RpA {M : Addr → Prop} {H : Hp} {xs : List V} (h : RpA M K H xs ds) (e : atI ds i = some d) : ∃ v, atI xs i = some v ∧ Rp M K H v d := by
  unfold atI at e ⊢
  rw [h.length]
  cases q : ixN ds.length i with
  | none => rw [q] at e; cases e
  | some n =>
    rw [q] at e
    exact h.getD e
theorem opt_ixT (e : atI ds i = some d) : OpT W (rIx K) (dt K (.tuple ds)) (dt K (.int i)) (dt K d) := fun u v H c hu hv Q q => by
  cases hv
  cases hu with
  | tup h r =>
    obtain ⟨w, h1, h2⟩ := atI_RpA r e
    exact .inr (.inl ⟨_, _, i, w, rfl, rfl, h, h1, q w H (Ex.refl W.B H) h2⟩)
theorem opt_ixL (e : atI ds i = some d) : OpT W (rIx K) (dt K (.list ds)) (dt K (.int i)) (dt K d) := fun u v H c hu hv Q q => by
  cases hv
  cases hu with
  | lst h _ r =>
    obtain ⟨w, h1, h2⟩ := atI_RpA r e
    exact .inl ⟨_, _, i, w, rfl, rfl, SqL.of h, h1, q w H (Ex.refl W.B H) h2⟩
theorem opt_ixLT {n : Nat} (e : Ts[n]? = some T) : OpT W (rIx K) (lstT Ts) (dt K (.int (n : Int))) T := fun u v H c hu hv Q q => by
  cases hv
  obtain ⟨a, xs, rfl, _, h1, h2⟩ := hu
  obtain ⟨w, h3, h4⟩ := h2.get e
  exact .inl ⟨_, _, (n : Int), w, rfl, rfl, SqL.of h1, atI_nat h3, q w H (Ex.refl W.B H) h4⟩
theorem opt_ixTT {n : Nat} (e : Ts[n]? = some T) : OpT W (rIx K) (tupT K Ts) (dt K (.int (n : Int))) T := fun u v H c hu hv Q q => by
  cases hv
  obtain ⟨a, xs, rfl, h1, h2⟩ := hu
  obtain ⟨w, h3, h4⟩ := h2.get e
  exact .inr (.inl ⟨_, _, (n : Int), w, rfl, rfl, h1, atI_nat h3, q w H (Ex.refl W.B H) h4⟩)
/-! ### calls -/
theorem cbt_len1 {n : Nat} (h : ∀ M H v, Rp M K H v d → LenV K v H n) : CbT W (rLen K) [dt K d] (dt K (.int n)) := fun us H c hu Q q => by
  obtain ⟨v, rfl⟩ : ∃ v, us = [v] := by
    match us, hu with
    | [v], _ => exact ⟨v, rfl⟩
  exact ⟨v, n, rfl, h _ _ _ hu.1, q _ H (Ex.refl W.B H) (.int _)⟩
theorem cbt_lenT : CbT W (rLen K) [dt K (.tuple ds)] (dt K (.int (ds.length : Nat))) := cbt_len1 fun M H v h => by
  cases h with
  | tup h r => exact .inr ⟨_, h, r.length.symm⟩
theorem cbt_lenL : CbT W (rLen K) [dt K (.list ds)] (dt K (.int (ds.length : Nat))) := cbt_len1 fun M H v h => by
  cases h with
  | lst h _ r => exact .inl ⟨_, SqL.of h, r.length.symm⟩
theorem cbt_lenS {x : Str} (hz : x.length ≤ 1000000) : CbT W (rLen K) [dt K (.str x)] (dt K (.int (x.length : Nat))) := cbt_len1 fun M H v h => by
  cases h
  exact ⟨sz_le hz, rfl⟩
theorem cbt_lenLT : CbT W (rLen K) [lstT Ts] (dt K (.int (Ts.length : Nat))) := fun us H c hu Q q => by
  match us, hu with
  | [v], hu =>
    obtain ⟨⟨a, xs, rfl, _, h1, h2⟩, _⟩ := hu
    exact ⟨_, Ts.length, rfl, .inl ⟨xs, SqL.of h1, h2.length.symm⟩, q _ H (Ex.refl W.B H) (.int _)⟩
def tyD : PyData → String
  | .none => "NoneType"
  | .bool _ => "bool"
  | .int _ => "int"
  | .str _ => "str"
  | .list _ => "list"
  | .tuple _ => "tuple"
  | .dict _ => "dict"
theorem Rp.ty {M : Addr → Prop} {H : Hp} {v : V} (h : Rp M K H v d) : TyX K H v (.type (tyD d)) := by
  cases h with
  | non => exact .base .non
  | bl b => exact .base (.bl b)
  | int i => exact .base (.int i)
  | str x => exact .base (.str x)
  | lst h _ _ => exact .base (.lst h)
  | tup h _ =>
    rcases h with (h | ⟨o, h⟩) | ⟨o, its, n, h1, h2, _⟩
    · exact .base (.tup h)
    · exact .fTuple h
    · exact .kTuple h1 h2
  | dic h _ => exact .base (.dK h)
/-- isinstance of data -/
def isD (d : PyData) (T : String) : Bool := tyD d == T || (tyD d == "bool" && T == "int")
theorem kit_all : (["NoneType", "bool", "int", "str", "list", "tuple", "dict"].all fun t => ["int", "bool", "str", "list", "tuple", "dict"].all fun T => kitB t T == some (t == T || (t == "bool" && T == "int"))) = true := by decide +kernel
theorem tyD_mem (d : PyData) : tyD d ∈ ["NoneType", "bool", "int", "str", "list", "tuple", "dict"] := match d with
  | .none => .head _
  | .bool _ => .tail _ (.head _)
  | .int _ => .tail _ (.tail _ (.head _))
  | .str _ => .tail _ (.tail _ (.tail _ (.head _)))
  | .list _ => .tail _ (.tail _ (.tail _ (.tail _ (.head _))))
  | .tuple _ => .tail _ (.tail _ (.tail _ (.tail _ (.tail _ (.head _)))))
  | .dict _ => .tail _ (.tail _ (.tail _ (.tail _ (.tail _ (.tail _ (.head _))))))
theorem kitD {T : String} (h : T ∈ ["int", "bool", "str", "list", "tuple", "dict"]) : PySem.W.kitOne K (.type (tyD d)) (.type T) = some (isD d T) :=
  kit_ty (beq_iff_eq.mp (List.all_eq_true.mp (List.all_eq_true.mp kit_all _ (tyD_mem d)) _ h))
theorem cbt_isi {T : String} (h : T ∈ ["int", "bool", "str", "list", "tuple", "dict"] := by decide) : CbT W (rIsi K) [dt K d, isV (.ty T)] (dt K (.bool (isD d T))) := fun us H c hu Q q => by
  match us, hu with
  | [v, t], hu =>
    obtain ⟨h1, h2, _⟩ := hu
    cases h2
    exact ⟨v, .ty T, _, .type T, _, rfl, .ty T, Rp.ty h1, kitD h, q _ H (Ex.refl W.B H) (.bl _)⟩
theorem ty_isi2 {te : TE} {T S : String} (h : Ty W Γ te (dt K d)) (hT : T ∈ ["int", "bool", "str", "list", "tuple", "dict"] := by decide) (hS : S ∈ ["int", "bool", "str", "list", "tuple", "dict"] := by decide) :
    Ty W Γ (tCB (rIsiT K) (tCons te (tCons (tTup (tCons (tC (.ty T)) (tCons (tC (.ty S)) tNil))) tNil))) (dt K (.bool (isD d T || isD d S))) := fun σ H c g Q q => by
  refine h σ H c g _ fun v H1 e1 hv => ⟨sz_le (by show 2 ≤ 1000000; decide), fun p hp => ?_⟩
  refine ⟨v, p, [.ty T, .ty S], _, [.type T, .type S], _, rfl, upd_same, .cons (.ty T) (.cons (.ty S) .nil), Rp.ty (Rp.up (Ex.new (B := W.B) hp).toW hv), ?_, q _ _ (e1.trans (Ex.new hp)) (.bl _)⟩
  refine kitAny_cons (kitD hT) (fun z => kitAny_cons (kitD hS) (fun z' => ?_) fun z' => ?_) fun z => ?_
  · rw [z, z']; exact kitAny_nil
  · rw [z, z']; rfl
  · rw [z]; rfl
end
end Ew

end
section
set_option Elab.async false
set_option linter.all false
set_option maxRecDepth 100000
set_option maxHeartbeats 1000000
/-! EwD: walks, comprehensions, loops, by types. -/
namespace Ew
open PySem PySem.Spec PyProof.Rows L2
theorem TysV.one {M B : Addr → Prop} {A : Typ} {us : List V} {H : Hp} (h : TysV M B [A] us H) : ∃ v, us = [v] ∧ A.p M B v H := by
  match us, h with
  | [v], h => exact ⟨v, rfl, h.1⟩
theorem TysV.two {M B : Addr → Prop} {A C : Typ} {us : List V} {H : Hp} (h : TysV M B [A, C] us H) : ∃ v w, us = [v, w] ∧ A.p M B v H ∧ C.p M B w H := by
  match us, h with
  | [v, w], h => exact ⟨v, w, rfl, h.1, h.2.1⟩
/-- M, or M and something new -/
def MOk (W : Wd) (H : Hp) (M' : Addr → Prop) : Prop := M' = W.M ∨ ∃ D, H D = none ∧ M' = ad W.M D
theorem MOk.tys {W : Wd} {H : Hp} {M' : Addr → Prop} (m : MOk W H M') {Ts : List Typ} {xs : List V} (h : TysV W.M W.B Ts xs H) : TysV M' W.B Ts xs H := by
  rcases m with rfl | ⟨D, n, rfl⟩
  · exact h
  · exact h.weak n
theorem MOk.nm {W : Wd} {H : Hp} {M' : Addr → Prop} (m : MOk W H M') {a : Addr} {o : HO} (h : H a = some o) (n : ¬ W.M a) : ¬ M' a := by
  rcases m with rfl | ⟨D, q, rfl⟩
  · exact n
  · exact fun z => z.elim n (ne_of_none h q)
theorem MOk.sub {W : Wd} {H : Hp} {M' : Addr → Prop} (m : MOk W H M') : ∀ a, W.B a → M' a := by
  rcases m with rfl | ⟨D, q, rfl⟩
  · exact W.sub
  · exact fun a h => .inl (W.sub a h)
/-- from H on the walk J yields values of the types Ts -/
def WalkT (W : Wd) (J : It) (Ts : List Typ) (H : Hp) : Prop := ∃ (G : Hp → Prop) (Y : Nat → Hp → V → Hp → Prop), Walk J Ts.length G Y ∧ G H ∧ ∀ M', MOk W H M' → (∀ Ha Hb, Exm M' W.B Ha Hb → G Ha → G Hb) ∧
  ∀ i Ha x Hb T, Ts[i]? = some T → Exm M' W.B H Ha → G Ha → Y i Ha x Hb → Ex W.B Ha Hb ∧ T.p M' W.B x Hb
section
variable (W : Wd) (Γ : Gam)
def TyI (wi : TI) (Ts : List Typ) : Prop := ∀ σ H, Cxt W H → EnvW W Γ σ H → ∀ R : It → Hp → Prop, (∀ J H1, Ex W.B H H1 → WalkT W J Ts H1 → R J H1) → wi σ H R
/-- a target: the slots behind it -/
def TyG (g : TG) (T : Typ) (Γ' : Gam) : Prop := ∀ v σ H, Cxt W H → EnvW W Γ σ H → T.at W v H → ∀ Q : Sx → Hp → Prop, (∀ σ' H', Ex W.B H H' → EnvW W Γ' σ' H' → Q σ' H') → g v σ H Q
def TyGs (g : TGs) (Ts : List Typ) (Γ' : Gam) : Prop := ∀ vs σ H, Cxt W H → EnvW W Γ σ H → TysV W.M W.B Ts vs H → ∀ Q : Sx → Hp → Prop, (∀ σ' H', Ex W.B H H' → EnvW W Γ' σ' H' → Q σ' H') → g vs σ H Q
end
/-- the target changes slots of vs alone; what is asked may be weakened -/
structure GOk (g : TG) (vs : List Nat) : Prop where
  kept : ∀ v σ H Q, g v σ H Q → g v σ H fun σ' H' => L2.wipe σ' vs = L2.wipe σ vs ∧ Q σ' H'
  mono : ∀ v σ H (Q Q' : Sx → Hp → Prop), (∀ σ' H', Q σ' H' → Q' σ' H') → g v σ H Q → g v σ H Q'
structure GsOk (g : TGs) (vs : List Nat) : Prop where
  kept : ∀ v σ H Q, g v σ H Q → g v σ H fun σ' H' => L2.wipe σ' vs = L2.wipe σ vs ∧ Q σ' H'
  mono : ∀ v σ H (Q Q' : Sx → Hp → Prop), (∀ σ' H', Q σ' H' → Q' σ' H') → g v σ H Q → g v σ H Q'
theorem wipe_set {i : Nat} {x : Option V} : ∀ {vs : List Nat} {σ : Sx}, i ∈ vs → L2.wipe (σ.set i x) vs = L2.wipe σ vs
  | [], _, h => by cases h
  | v :: vs, σ, h => by
    show (L2.wipe (σ.set i x) vs).set v none = (L2.wipe σ vs).set v none
    by_cases e : i ∈ vs
    · rw [wipe_set e]
    · have ev : i = v := by
        rcases List.mem_cons.mp h with z | z
        · exact z
        · exact absurd z e
      subst ev
      have comm : ∀ {ws : List Nat} {τ : Sx}, i ∉ ws → L2.wipe (τ.set i x) ws = (L2.wipe τ ws).set i x := by
        intro ws
        induction ws with
        | nil => intro τ _; rfl
        | cons w ws ih =>
          intro τ hn
          have h1 : i ≠ w := fun z => hn (by rw [z]; exact List.mem_cons_self ..)
          have h2 : i ∉ ws := fun z => hn (List.mem_cons_of_mem _ z)
          show (L2.wipe (τ.set i x) ws).set w none = ((L2.wipe τ ws).set w none).set i x
          rw [ih h2, List.set_comm _ _ h1]
      rw [comm e, List.set_set]
theorem wipe_wipe {σ : Sx} {vs : List Nat} : ∀ {ws : List Nat}, (∀ v ∈ ws, v ∈ vs) → L2.wipe (L2.wipe σ ws) vs = L2.wipe σ vs
  | [], _ => rfl
  | w :: ws, h => by
    show L2.wipe ((L2.wipe σ ws).set w none) vs = _
    rw [wipe_set (h w (List.mem_cons_self ..)), wipe_wipe fun v hv => h v (List.mem_cons_of_mem _ hv)]
section
variable {W : Wd} {Γ Γ' : Gam} {K : PySem.W.Frag} {T U A C P : Typ} {Ts Us : List Typ} {ds : List PyData} {d : PyData} {ta : TA} {te : TE} {g : TG} {gs : TGs} {vs : List Nat}
theorem gok_name (i : Nat) (h : i ∈ vs) : GOk (gName i) vs := ⟨fun v σ H Q q => ⟨wipe_set h, q⟩, fun _ _ _ _ _ h q => h _ _ q⟩
theorem gok_nil : GsOk gNil vs := ⟨fun v σ H Q ⟨h, q⟩ => ⟨h, rfl, q⟩, fun _ _ _ _ _ h q => ⟨q.1, h _ _ q.2⟩⟩
theorem gok_cons (h : GOk g vs) (k : GsOk gs vs) : GsOk (gCons g gs) vs :=
  ⟨fun v σ H Q ⟨x, r, e, q⟩ => ⟨x, r, e, h.mono _ _ _ _ _ (fun σ1 H1 ⟨w1, z⟩ => k.mono _ _ _ _ _ (fun σ2 H2 ⟨w2, z2⟩ => ⟨w2.trans w1, z2⟩) (k.kept _ _ _ _ z)) (h.kept _ _ _ _ q)⟩,
    fun v σ H Q Q' hq ⟨x, r, e, q⟩ => ⟨x, r, e, h.mono _ _ _ _ _ (fun σ' H' z => k.mono _ _ _ _ _ hq z) q⟩⟩
theorem gok_tup {n : Nat} (h : GsOk gs vs) : GOk (gTup K n gs) vs := ⟨fun v σ H Q ⟨a, xs, e, s, l, q⟩ => ⟨a, xs, e, s, l, h.kept _ _ _ _ q⟩, fun v σ H Q Q' hq ⟨a, xs, e, s, l, q⟩ => ⟨a, xs, e, s, l, h.mono _ _ _ _ _ hq q⟩⟩
theorem gok_unl {n : Nat} (h : GsOk gs vs) : GOk (gUnl K n gs) vs := ⟨fun v σ H Q ⟨a, xs, e, s, l, q⟩ => ⟨a, xs, e, s, l, h.kept _ _ _ _ q⟩, fun v σ H Q Q' hq ⟨a, xs, e, s, l, q⟩ => ⟨a, xs, e, s, l, h.mono _ _ _ _ _ hq q⟩⟩
theorem tyg_name (i : Nat) : TyG W Γ (gName i) T (Γ.set i (some T)) := fun v σ H c g hv Q q => q _ H (Ex.refl _ _) (EnvL.set hv g)
theorem tygs_nil : TyGs W Γ gNil [] Γ := fun vs σ H c g hv Q q => by
  match vs, hv with
  | [], _ => exact ⟨rfl, q _ _ (Ex.refl _ _) g⟩
theorem tygs_cons {Γ1 Γ2 : Gam} (h : TyG W Γ g T Γ1) (k : TyGs W Γ1 gs Ts Γ2) : TyGs W Γ (gCons g gs) (T :: Ts) Γ2 := fun vs σ H c e hv Q q => by
  match vs, hv with
  | v :: vs, hv => exact ⟨v, vs, rfl, h v σ H c e hv.1 _ fun σ1 H1 e1 g1 => k vs σ1 H1 (c.up e1) g1 (hv.2.up e1.toW) Q fun σ2 H2 e2 g2 => q σ2 H2 (e1.trans e2) g2⟩
theorem tyg_tup {n : Nat} (h : TyGs W Γ gs Ts Γ') (hn : Ts.length = n := by rfl) : TyG W Γ (gTup K n gs) (tupT K Ts) Γ' := fun v σ H c g ⟨a, xs, h1, h2, h3⟩ Q q => ⟨a, xs, h1, h2, by rw [h3.length, hn], h xs σ H c g h3 Q q⟩
theorem tyg_unl {n : Nat} (h : TyGs W Γ gs Ts Γ') (hn : Ts.length = n := by rfl) : TyG W Γ (gUnl K n gs) (lstT Ts) Γ' := fun v σ H c g ⟨a, xs, h1, h0, h2, h3⟩ Q q => ⟨a, xs, h1, SqL.of h2, by rw [h3.length, hn], h xs σ H c g h3 Q q⟩
theorem TyG.sub (h : TyG W Γ g T Γ') (k : ∀ v H, U.at W v H → T.at W v H) : TyG W Γ g U Γ' := fun v σ H c e hv Q q => h v σ H c e (k v H hv) Q q
/-! ### what is walked -/
/-- over a tuple -/
theorem tyi_tup (h : Ty W Γ te (tupT K Ts)) : TyI W Γ (iTup K te) Ts := fun σ H c g R q => h σ H c g _ fun v H1 e ⟨a, xs, h1, h2, h3⟩ => by
  subst h1
  refine ⟨a, rfl, ⟨xs, h2⟩, q _ H1 e ⟨fun H => SqT K H a xs, YAt xs, by rw [← h3.length]; exact walk_tup, h2, fun M' m => ⟨fun Ha Hb f z => f.sqT z, fun i Ha x Hb T hT f z y => ?_⟩⟩⟩
  obtain ⟨rfl, y⟩ := y
  obtain ⟨w, h4, h5⟩ := (m.tys h3).get hT
  rw [h4] at y; cases y
  exact ⟨Ex.refl _ _, T.up f h5⟩
theorem tyi_tupD (h : Ty W Γ te (dt K (.tuple ds))) : TyI W Γ (iTup K te) (ds.map (dt K)) := tyi_tup (h.sub fun _ _ _ => data_tupT)
/-- over a list that stays -/
theorem tyi_lst (h : Ty W Γ te (lstT Ts)) : TyI W Γ (iList K te) Ts := fun σ H c g R q => h σ H c g _ fun v H1 e ⟨a, xs, h1, h0, h2, h3⟩ => by
  subst h1
  refine ⟨a, rfl, ⟨xs, SqL.of h2⟩, q _ H1 e ⟨fun H => SqL K H a xs, YAt xs, by rw [← h3.length]; exact walk_list, SqL.of h2, fun M' m => ⟨fun Ha Hb f z => f.sqL (m.nm h2 h0) z, fun i Ha x Hb T hT f z y => ?_⟩⟩⟩
  obtain ⟨rfl, y⟩ := y
  obtain ⟨w, h4, h5⟩ := (m.tys h3).get hT
  rw [h4] at y; cases y
  exact ⟨Ex.refl _ _, T.up f h5⟩
theorem tyi_lstD (h : Ty W Γ te (dt K (.list ds))) : TyI W Γ (iList K te) (ds.map (dt K)) := tyi_lst (h.sub fun _ _ _ => data_lstT)
theorem range_map_get {f : Nat → Typ} {n i : Nat} {T : Typ} (h : ((List.range n).map f)[i]? = some T) : i < n ∧ T = f i := by
  rw [List.getElem?_map] at h
  cases hr : (List.range n)[i]? with
  | none => rw [hr] at h; cases h
  | some k =>
    rw [hr] at h
    obtain ⟨hl, ek⟩ := List.getElem?_eq_some_iff.mp hr
    rw [List.getElem_range] at ek
    subst ek
    rw [List.length_range] at hl
    cases h
    exact ⟨hl, rfl⟩
/-- range(n) -/
theorem tyi_rng1 {n : Int} (h : TyA W Γ ta [dt K (.int n)]) (hn : n ≤ 1000000000) (h0 : -1000000000 ≤ n) : TyI W Γ (iRng1 ta) ((List.range n.toNat).map fun i => dt K (.int (i : Nat))) := fun σ H c g R q => h σ H c g _ fun us H1 e hu => by
  obtain ⟨v, rfl, h1⟩ := hu.one
  cases h1
  refine ⟨n, rfl, by omega, by omega, q _ H1 e ⟨fun _ => True, YFn fun i => .int (0 + i), by rw [List.length_map, List.length_range]; exact walk_range, True.intro, fun M' m => ⟨fun _ _ _ _ => True.intro, fun i Ha x Hb T hT f z y => ?_⟩⟩⟩
  obtain ⟨rfl, y⟩ := y
  obtain ⟨hl, rfl⟩ := range_map_get hT
  subst y
  refine ⟨Ex.refl _ _, ?_⟩
  show Rp M' K Hb (V.int (0 + (i : Int))) (.int (i : Int))
  rw [Int.zero_add]
  exact .int _
/-- enumerate(list) -/
theorem tyi_enumL (h : TyA W Γ ta [lstT Ts]) : TyI W Γ (iEnum K ta) ((List.range Ts.length).map fun i => tupT K [dt K (.int (i : Nat)), Ts.getD i (isV .non)]) := fun σ H c g R q => h σ H c g _ fun us H1 e hu => by
  obtain ⟨v, rfl, a, xs, rfl, h0, h2, h3⟩ := hu.one
  refine ⟨a, xs, rfl, SqL.of h2, q _ H1 e ⟨fun H => SqL K H a xs, YPair (fun i => some (.int (i : Nat))) (fun i => xs[i]?), by rw [List.length_map, List.length_range, ← h3.length]; exact walk_enum, SqL.of h2, fun M' m => ⟨fun Ha Hb f z => f.sqL (m.nm h2 h0) z, fun i Ha x Hb T hT f z y => ?_⟩⟩⟩
  obtain ⟨Tp, x0, y0, rfl, hn, rfl, ex, ey⟩ := y
  cases ex
  obtain ⟨hl, rfl⟩ := range_map_get hT
  obtain ⟨w, h4, h5⟩ := (m.tys h3).get (List.getElem?_eq_getElem hl)
  have ey' := h4.symm.trans ey
  cases ey'
  refine ⟨Ex.new hn, Tp, _, rfl, SqT.of upd_same, .int _, ?_, True.intro⟩
  show (Ts.getD i (isV .non)).p M' W.B y0 _
  rw [List.getD_eq_getElem?_getD, List.getElem?_eq_getElem hl]
  exact Typ.up _ (f.trans ((Ex.new (B := W.B) hn).toM m.sub)) h5
theorem zip_len {a b x y : Nat} (h : a = x) (k : b = y) : min x y = min a b := by rw [h, k]
theorem walk_zipT {a b : Addr} {xs ys : List V} {n : Nat} (hn : n = min xs.length ys.length) : Walk (RZ.ItzT K a b) n (fun H => SqT K H a xs ∧ SqT K H b ys) (YPair (fun i => xs[i]?) (fun i => ys[i]?)) := by
  subst hn
  refine ⟨fun i _ hi q => ?_, fun _ q => ⟨xs, ys, q.1, q.2, by omega⟩, fun i H v H' _ q y => ?_⟩
  · have h1 : i < xs.length := by omega
    have h2 : i < ys.length := by omega
    exact ⟨xs, ys, xs[i], ys[i], q.1, q.2, by simp [h1], by simp [h2]⟩
  · obtain ⟨T, x, z, h1, h2, h3, h4, h5⟩ := y
    exact ⟨T, x, z, h1, h2, h3, h4 xs q.1, h5 ys q.2⟩
theorem zip_map_get {i : Nat} {f : Typ × Typ → Typ} (h : ((Ts.zip Us).map f)[i]? = some T) : ∃ A C, Ts[i]? = some A ∧ Us[i]? = some C ∧ T = f (A, C) := by
  rw [List.getElem?_map] at h
  cases hr : (Ts.zip Us)[i]? with
  | none => rw [hr] at h; cases h
  | some p =>
    rw [hr] at h
    cases h
    obtain ⟨q1, q2⟩ := List.getElem?_zip_eq_some.mp hr
    exact ⟨_, _, q1, q2, rfl⟩
/-- zip of two tuples -/
theorem tyi_zipT (h : TyA W Γ ta [tupT K Ts, tupT K Us]) : TyI W Γ (RZ.iZipA K ta) ((Ts.zip Us).map fun p => tupT K [p.1, p.2]) := fun σ H c g R q => h σ H c g _ fun us H1 e hu => by
  obtain ⟨v, w, rfl, ⟨a, xs, rfl, h2, h3⟩, ⟨b, ys, rfl, h4, h5⟩⟩ := hu.two
  refine ⟨a, b, xs, ys, rfl, .inr ⟨h2, h4, q _ H1 e ⟨fun H => SqT K H a xs ∧ SqT K H b ys, YPair (fun i => xs[i]?) (fun i => ys[i]?), ?_, ⟨h2, h4⟩, fun M' m => ⟨fun Ha Hb f z => ⟨f.sqT z.1, f.sqT z.2⟩, fun i Ha x Hb T hT f z y => ?_⟩⟩⟩⟩
  · refine walk_zipT ?_
    rw [List.length_map, List.length_zip]
    exact zip_len h3.length h5.length
  · obtain ⟨Tp, x0, y0, rfl, hn, rfl, ex, ey⟩ := y
    obtain ⟨A, C, q1, q2, rfl⟩ := zip_map_get hT
    obtain ⟨x1, e1, r1⟩ := (m.tys h3).get q1
    obtain ⟨y1, e2, r2⟩ := (m.tys h5).get q2
    have ex' := e1.symm.trans ex
    cases ex'
    have ey' := e2.symm.trans ey
    cases ey'
    exact ⟨Ex.new hn, Tp, _, rfl, SqT.of upd_same, Typ.up _ (f.trans ((Ex.new (B := W.B) hn).toM m.sub)) r1, Typ.up _ (f.trans ((Ex.new (B := W.B) hn).toM m.sub)) r2, True.intro⟩
theorem filter_range_succ {f : Nat → Bool} {F : Nat → Typ} {n : Nat} : ((List.range (n + 1)).filter f).map F = ((List.range n).filter f).map F ++ (if f n = true then [F n] else []) := by
  rw [List.range_succ, List.filter_append, List.map_append]
  congr 1
  cases h : f n <;> simp [h]
theorem filter_range_len {f : Nat → Bool} {F : Nat → Typ} (n : Nat) : (((List.range n).filter f).map F).length ≤ n := by
  rw [List.length_map]
  exact Nat.le_trans (List.length_filter_le _ _) (by rw [List.length_range]; exact Nat.le_refl _)
/-! ### comprehensions -/
theorem tyl_lc {wi : TI} {tt : TT} (f : Nat → Bool) (F : Nat → Typ) (hi : TyI W Γ wi Ts) (hz : Ts.length ≤ 1000000) (gk : GOk g vs)
    (hs : ∀ (W' : Wd) i T, Ts[i]? = some T → ∃ Γi, TyG W' (wipeG Γ vs) g T Γi ∧ Tt W' Γi tt (· = f i) ∧ (f i = true → Ty W' Γi te (F i))) :
    TyL W Γ (tLc wi g tt te vs) (((List.range Ts.length).filter f).map F) := fun σ H c e Q q => by
  refine hi σ H c e _ fun J H1 e1 hw => ?_
  intro D hD
  obtain ⟨G, Y, w, hG, hup⟩ := hw
  obtain ⟨hup, hy⟩ := hup (W.ad D).M (.inr ⟨D, hD, rfl⟩)
  have c1 := c.up e1
  have bD : ¬ W.B D := c1.nb hD
  have toD : ∀ {Ha Hb : Hp}, Ex W.B Ha Hb → Exm (W.ad D).M W.B Ha Hb := fun z => Ex.toW (W := W.ad D) z
  have cD : ∀ {H2 : Hp}, Ex W.B H1 H2 → H2 D ≠ none → Cxt (W.ad D) H2 := fun {H2} e2 n => ⟨(c1.up e2).box, fun a h z => by
    rcases h with h | h
    · exact (c1.up e2).al a h z
    · rw [h] at z; exact n z, (c1.up e2).ex, (c1.up e2).own⟩
  have env1 : EnvL (W.ad D).M W.B Γ σ H1 := EnvL.weak hD (e.up e1.toW)
  refine lc_it w (fun i H2 => Ex W.B H1 H2 ∧ G H2 ∧ ∃ acc, H2 D = some (.lst acc) ∧ TysV (W.ad D).M W.B (((List.range i).filter f).map F) acc H2) ?_ (fun i H2 _ h => h.2.1) ?_ ?_
  · exact ⟨Ex.new hD, hup _ _ (toD (Ex.new hD)) hG, [], upd_same, True.intro⟩
  · rintro i x H2 H3 hi ⟨e2, hG2, acc, hacc, ht⟩ hx
    have hT : Ts[i]? = some (Ts[i]'hi) := List.getElem?_eq_getElem hi
    obtain ⟨e3, hxt⟩ := hy i H2 x H3 _ hT (toD e2) hG2 hx
    obtain ⟨Γi, k1, k2, k3⟩ := hs (W.ad D) i _ hT
    have d3 : H3 D = some (.lst acc) := e3.keep hacc bD
    have some_ne : ∀ {Hx : Hp} {o : HO}, Hx D = some o → Hx D ≠ none := fun h z => by rw [h] at z; cases z
    have env3 : EnvL (W.ad D).M W.B (wipeG Γ vs) (L2.wipe σ vs) H3 := (env1.up (toD (e2.trans e3))).wipe vs
    refine gk.mono _ _ _ _ _ ?_ (gk.kept _ _ _ _ (k1 x _ H3 (cD (e2.trans e3) (some_ne d3)) env3 hxt (fun σ4 H4 => Ex W.B H3 H4 ∧ EnvL (W.ad D).M W.B Γi σ4 H4) fun σ4 H4 e4 g4 => ⟨e4, g4⟩))
    rintro σ4 H4 ⟨w4, e4, g4⟩
    refine ⟨w4.trans (wipe_wipe fun _ h => h) |>.trans (wipe_wipe fun _ h => h).symm |>.trans (wipe_wipe fun _ h => h), ?_⟩
    have d4 : H4 D = some (.lst acc) := e4.keep d3 bD
    have e24 := e2.trans (e3.trans e4)
    refine k2 σ4 H4 (cD e24 (some_ne d4)) g4 _ fun b H5 e5 hb => ?_
    have e5' : Ex W.B H4 H5 := e5
    have d5 : H5 D = some (.lst acc) := e5'.keep d4 bD
    have lacc : acc.length ≤ i := by rw [ht.length]; exact filter_range_len i
    have e25 := (e3.trans e4).trans e5'
    cases b with
    | true =>
      rw [if_pos rfl]
      refine k3 hb.symm σ4 H5 (cD (e24.trans e5') (some_ne d5)) (g4.up (toD e5')) _ fun y H6 e6 hy6 => ?_
      have e6' : Ex W.B H5 H6 := e6
      have d6 : H6 D = some (.lst acc) := e6'.keep d5 bD
      have put : Exm (W.ad D).M W.B H6 (upd H6 D (.lst (acc ++ [y]))) := Exm.put (.inr rfl) bD d6
      refine ⟨acc, d6, sz_lt (by omega), ((e24.trans e5').trans e6').mut hD, hup _ _ put (hup _ _ (toD (e25.trans e6')) hG2), acc ++ [y], upd_same, ?_⟩
      rw [filter_range_succ, ← hb, if_pos rfl]
      exact ((ht.up (toD (e25.trans e6'))).append (show TysV (W.ad D).M W.B [F i] [y] H6 from ⟨hy6, True.intro⟩)).up put
    | false =>
      rw [if_neg Bool.false_ne_true]
      refine ⟨e24.trans e5', hup _ _ (toD e25) hG2, acc, d5, ?_⟩
      rw [filter_range_succ, ← hb, if_neg Bool.false_ne_true, List.append_nil]
      exact ht.up (toD e25)
  · rintro H2 ⟨e2, hG2, acc, hacc, ht⟩
    exact q D acc H2 (e1.trans e2) (e1.free hD) hacc ht.drop
theorem filter_yes {n : Nat} : (List.range n).filter (fun _ => true) = List.range n := List.filter_eq_self.mpr fun _ _ => rfl
/-- without a test -/
theorem tyl_lc1 {wi : TI} (F : Nat → Typ) (hi : TyI W Γ wi Ts) (hz : Ts.length ≤ 1000000) (gk : GOk g vs)
    (hs : ∀ (W' : Wd) i T, Ts[i]? = some T → ∃ Γi, TyG W' (wipeG Γ vs) g T Γi ∧ Ty W' Γi te (F i)) :
    TyL W Γ (tLc wi g tYes te vs) ((List.range Ts.length).map F) := by
  have h := tyl_lc (tt := tYes) (fun _ => true) F hi hz gk fun W' i T hT => by
    obtain ⟨Γi, h1, h2⟩ := hs W' i T hT
    exact ⟨Γi, h1, fun σ H c e Q q => q true H (Ex.refl _ _) rfl, fun _ => h2⟩
  rw [filter_yes] at h
  exact h
/-! ### loops -/
variable {N : Sx → Hp → Prop} {R : V → Hp → Prop} {Bk Ct : Sx → Hp → Prop}
/-- for: before turn i the slots are Γi i x in the world Wi i x, for some x -/
theorem tys_for {α : Type} {wi : TI} {tb : TS} (Wi : Nat → α → Wd) (Γi : Nat → α → Gam) (x0 : α) (hi : TyI W Γ wi Ts) (like : ∀ i x, W.Like (Wi i x)) (h0 : ∀ σ H, nE W Γ σ H → nE (Wi 0 x0) (Γi 0 x0) σ H)
    (hs : ∀ i T x, Ts[i]? = some T → ∃ Γt, TyG (Wi i x) (Γi i x) g T Γt ∧ TyS (Wi i x) Γt tb (fun σ H => ∃ y, nE (Wi (i + 1) y) (Γi (i + 1) y) σ H) R N (fun σ H => ∃ y, nE (Wi (i + 1) y) (Γi (i + 1) y) σ H))
    (hd : ∀ x σ H, nE (Wi Ts.length x) (Γi Ts.length x) σ H → N σ H) : TyS W Γ (tFor wi g tb) N R Bk Ct := fun σ H c e D dn dr db dc => by
  refine hi σ H c e _ fun J H1 e1 hw => ?_
  obtain ⟨G, Y, w, hG, hup⟩ := hw
  obtain ⟨hup, hy⟩ := hup W.M (.inl rfl)
  refine for_it w (D := D) (fun i σ2 H2 => Exm W.M W.B H1 H2 ∧ G H2 ∧ ∃ x, nE (Wi i x) (Γi i x) σ2 H2) ?_ (fun i σ2 H2 _ h => h.2.1) ?_ ?_
  · exact ⟨Exm.refl _ _ _, hG, x0, h0 σ H1 ⟨c.up e1, e.up e1.toW⟩⟩
  · rintro i v σ2 H2 H3 hi ⟨e2, hG2, x, c2, g2⟩ hx
    have hT : Ts[i]? = some (Ts[i]'hi) := List.getElem?_eq_getElem hi
    obtain ⟨e3, hxt⟩ := hy i H2 v H3 _ hT e2 hG2 hx
    obtain ⟨Γt, k1, k2⟩ := hs i _ x hT
    have l := like i x
    have e3' : Ex (Wi i x).B H2 H3 := by rw [l.b]; exact e3
    have hxt' : (Ts[i]'hi).at (Wi i x) v H3 := by show Typ.p _ _ _ _ _; rw [l.m, l.b]; exact hxt
    refine k1 v σ2 H3 (c2.up e3') (g2.up e3'.toW) hxt' _ fun σ4 H4 e4 g4 => ?_
    have e4b : Ex W.B H3 H4 := by rw [← l.b]; exact e4
    have e24 : Exm W.M W.B H2 H4 := (e3.trans e4b).toW
    refine k2 σ4 H4 ((c2.up e3').up e4) g4 _ (fun σ5 H5 e5 n5 => ⟨e2.trans (e24.trans (l.exm e5)), hup _ _ (e24.trans (l.exm e5)) hG2, n5⟩) dr (fun σ5 H5 e5 n5 => dn σ5 H5 (e1.toW.trans (e2.trans (e24.trans (l.exm e5)))) n5)
      (fun σ5 H5 e5 n5 => ⟨e2.trans (e24.trans (l.exm e5)), hup _ _ (e24.trans (l.exm e5)) hG2, n5⟩)
  · rintro σ2 H2 ⟨e2, hG2, x, n2⟩
    exact dn σ2 H2 (e1.toW.trans e2) (hd x σ2 H2 n2)
/-! ### calls that take a list -/
theorem lst_sq {M B : Addr → Prop} {v : V} {H : Hp} (h : (lstT Ts).p M B v H) : ∃ a xs, v = .ref a ∧ SqL K H a xs ∧ TysV M B Ts xs H := by
  obtain ⟨a, xs, h1, _, h2, h3⟩ := h
  exact ⟨a, xs, h1, SqL.of h2, h3⟩
theorem tys_ints {M B : Addr → Prop} {H : Hp} : ∀ {ns : List Int} {xs : List V}, TysV M B (ns.map fun n => dt K (.int n)) xs H → xs = ns.map V.int
  | [], [], _ => rfl
  | n :: ns, x :: xs, h => by
    obtain ⟨h1, h2⟩ := h
    cases h1
    rw [tys_ints h2, List.map_cons]
  | [], _ :: _, h => h.elim
  | _ :: _, [], h => h.elim
theorem tys_bools {M B : Addr → Prop} {H : Hp} : ∀ {bs : List Bool} {xs : List V}, TysV M B (bs.map fun b => dt K (.bool b)) xs H → xs = bs.map V.bl
  | [], [], _ => rfl
  | n :: ns, x :: xs, h => by
    obtain ⟨h1, h2⟩ := h
    cases h1
    rw [tys_bools h2, List.map_cons]
  | [], _ :: _, h => h.elim
  | _ :: _, [], h => h.elim
theorem cbt_sum {ns : List Int} : CbT W (rSum K) [lstT (ns.map fun n => dt K (.int n))] (dt K (.int ns.sum)) := fun us H c hu Q q => by
  obtain ⟨v, rfl, h⟩ := hu.one
  obtain ⟨a, xs, rfl, h1, h2⟩ := lst_sq (K := K) h
  have e := tys_ints h2
  subst e
  exact ⟨a, ns, rfl, h1, q _ H (Ex.refl _ _) (.int _)⟩
theorem cbt_all {bs : List Bool} : CbT W (rAll K) [lstT (bs.map fun b => dt K (.bool b))] (dt K (.bool (bs.all id))) := fun us H c hu Q q => by
  obtain ⟨v, rfl, h⟩ := hu.one
  obtain ⟨a, xs, rfl, h1, h2⟩ := lst_sq (K := K) h
  have e := tys_bools h2
  subst e
  exact ⟨a, bs, rfl, h1, q _ H (Ex.refl _ _) (.bl _)⟩
theorem cbt_max {ns : List Int} (hn : ns ≠ []) : CbT W (rMax K) [lstT (ns.map fun n => dt K (.int n))] (exT fun m : Int => gd (m ∈ ns ∧ ∀ y, y ∈ ns → y ≤ m) (dt K (.int m))) := fun us H c hu Q q => by
  obtain ⟨v, rfl, h⟩ := hu.one
  obtain ⟨a, xs, rfl, h1, h2⟩ := lst_sq (K := K) h
  have e := tys_ints h2
  subst e
  exact ⟨a, ns, rfl, h1, List.length_pos_iff.mpr hn, fun m m1 m2 => q _ H (Ex.refl _ _) ⟨m, ⟨m1, m2⟩, .int _⟩⟩
def rTupOf (K : PySem.W.Frag) : List V → Hp → VK → Prop := fun xs H Q => ∃ p ys, xs = [.ref p] ∧ ((SqL K H p ys ∧ ∀ l, H l = none → Q (.ref l) (upd H l (.tup ys))) ∨ (SqT K H p ys ∧ Q (.ref p) H))
theorem cbt_tupL : CbT W (rTupOf K) [lstT Ts] (tupT K Ts) := fun us H c hu Q q => by
  obtain ⟨v, rfl, h⟩ := hu.one
  obtain ⟨a, xs, rfl, h1, h2⟩ := lst_sq (K := K) h
  exact ⟨a, xs, rfl, .inl ⟨h1, fun l hl => q _ _ (Ex.new hl) ⟨l, xs, rfl, SqT.of upd_same, h2.up (Ex.new (B := W.B) hl).toW⟩⟩⟩
theorem cbt_tupT : CbT W (rTupOf K) [tupT K Ts] (tupT K Ts) := fun us H c hu Q q => by
  obtain ⟨v, rfl, a, xs, rfl, h1, h2⟩ := hu.one
  exact ⟨a, xs, rfl, .inr ⟨h1, q _ _ (Ex.refl _ _) ⟨a, xs, rfl, h1, h2⟩⟩⟩
def rLstOf (K : PySem.W.Frag) : List V → Hp → VK → Prop := fun xs H Q => ∃ p ys, xs = [.ref p] ∧ (SqL K H p ys ∨ SqT K H p ys) ∧ ∀ l, H l = none → Q (.ref l) (upd H l (.lst ys))
theorem cbl_lstL : CbL W (rLstOf K) [lstT Ts] Ts := fun us H c hu Q q => by
  obtain ⟨v, rfl, h⟩ := hu.one
  obtain ⟨a, xs, rfl, h1, h2⟩ := lst_sq (K := K) h
  exact ⟨a, xs, rfl, .inl h1, fun l hl => q l xs _ (Ex.new hl) hl upd_same (h2.up (Ex.new (B := W.B) hl).toW)⟩
theorem cbl_lstT : CbL W (rLstOf K) [tupT K Ts] Ts := fun us H c hu Q q => by
  obtain ⟨v, rfl, a, xs, rfl, h1, h2⟩ := hu.one
  exact ⟨a, xs, rfl, .inr h1, fun l hl => q l xs _ (Ex.new hl) hl upd_same (h2.up (Ex.new (B := W.B) hl).toW)⟩
/-- tuple([..]) -/
theorem ty_tupOf (h : TyL W Γ te Ts) : Ty W Γ (tCB (rTupOf K) (tCons te tNil)) (tupT K Ts) := ty_cb (tya_cons h.ty tya_nil) cbt_tupL
theorem ty_sumOf {ns : List Int} (h : TyL W Γ te (ns.map fun n => dt K (.int n))) : Ty W Γ (tCB (rSum K) (tCons te tNil)) (dt K (.int ns.sum)) := ty_cb (tya_cons h.ty tya_nil) cbt_sum
theorem ty_allOf {bs : List Bool} (h : TyL W Γ te (bs.map fun b => dt K (.bool b))) : Ty W Γ (tCB (rAll K) (tCons te tNil)) (dt K (.bool (bs.all id))) := ty_cb (tya_cons h.ty tya_nil) cbt_all
end
end Ew

end
section
set_option Elab.async false
set_option linter.all false
set_option maxRecDepth 100000
set_option maxHeartbeats 1000000
/-! EwG: short words for derivations. -/
namespace Ew
open PySem PySem.Spec PyProof.Rows L2
section
variable {X : Cx} {e : Expr} {es : List Expr} {t : TA} {p pos : Pos} {te : TE}
/-- what the text says of a def -/
structure Defn (K : PySem.W.Frag) (mg : Str → Option Value) (x : Str) (f : Addr) (fd : FuncData) (ps : List Str) : Prop where
  g : mg x = some (.ref f)
  k : PySem.W.keepIn K (.ref f) = true
  b : Binds K fd ps []
/-- a name as a target -/
theorem pgn (i : Nat) {x : Str} (nd : X.N.Nodup) (hi : X.N[i]? = some x := by rfl) (hx : Loc X.env.scope x := by first | exact Or.inl rfl | exact Or.inr rfl)
    (hf : X.fn x = true ∨ X.env.scope.names.lookup x = some .local := by first | exact .inl rfl | exact .inr rfl) : PG X (.Name x pos) (gName i) := pg_name nd hi hx hf
/-- x = e -/
theorem pset (i : Nat) {x : Str} {pos' : Pos} (nd : X.N.Nodup) (he : PE X e te) (hi : X.N[i]? = some x := by rfl) (hx : Loc X.env.scope x := by first | exact Or.inl rfl | exact Or.inr rfl) (hs : swapsWith e (some (.Name x pos')) pos.line X.env = pure false := by rfl)
    (hf : X.fn x = true ∨ X.env.scope.names.lookup x = some .local := by first | exact .inl rfl | exact .inr rfl) : PS X (.Assign [.Name x pos'] e pos) (tAsg te (gName i)) := ps_set nd hi hx he hs hf
/-- x = [.. for ..], x no cell -/
theorem psetLc (i : Nat) {y : Str} {py spos : Pos} {elt tg iter : Expr} {ifs : List Expr} {scope : Scope} (own : List (Str × Nat)) {wi : TI} {g : TG} {tt : TT} (nd : X.N.Nodup) (hi : PI X tg iter wi)
    (hg : ∀ (s : Shared) (H : Hp) (C : Addr) (cl : List (Str × Addr)) (fp : List Addr), PG (X.blk s H scope (compEnvC scope cl C X.env) fp) tg g) (ht : ∀ (s : Shared) (H : Hp) (C : Addr) (cl : List (Str × Addr)) (fp : List Addr), PTs (X.blk s H scope (compEnvC scope cl C X.env) fp) ifs tt)
    (he : ∀ (s : Shared) (H : Hp) (C : Addr) (cl : List (Str × Addr)) (fp : List Addr), PE (X.blk s H scope (compEnvC scope cl C X.env) fp) elt te)
    (ok : blkC X.N X.env.scope scope own = true) (hsw : swapsWith (.ListComp elt [⟨tg, iter, ifs, 0⟩] scope pos) (some (.Name y py)) spos.line X.env = pure true)
    (hc : X.calm = true := by rfl) (hy : X.N[i]? = some y := by rfl) (hyl : X.env.scope.names.lookup y = some .local := by rfl) (hs : ∀ x, foldedSetIterable iter X.env x = pure x := by intro _; rfl) :
    PS X (.Assign [.Name y py] (.ListComp elt [⟨tg, iter, ifs, 0⟩] scope pos) spos) (tAsg (tLc wi g tt te (own.map (·.2))) (gName i)) := ps_setLc hc nd hy hyl hsw hi (blkOk_by ok) hg ht he hs
/-- [.. for ..] -/
theorem plc {elt tg iter : Expr} {ifs : List Expr} {scope : Scope} (own : List (Str × Nat)) {wi : TI} {g : TG} {tt : TT} (nd : X.N.Nodup) (hi : PI X tg iter wi)
    (hg : ∀ (s : Shared) (H : Hp) (C : Addr) (cl : List (Str × Addr)) (fp : List Addr), PG (X.blk s H scope (compEnvC scope cl C X.env) fp) tg g) (ht : ∀ (s : Shared) (H : Hp) (C : Addr) (cl : List (Str × Addr)) (fp : List Addr), PTs (X.blk s H scope (compEnvC scope cl C X.env) fp) ifs tt)
    (he : ∀ (s : Shared) (H : Hp) (C : Addr) (cl : List (Str × Addr)) (fp : List Addr), PE (X.blk s H scope (compEnvC scope cl C X.env) fp) elt te)
    (ok : blkC X.N X.env.scope scope own = true) (hc : X.calm = true := by rfl) (hs : ∀ x, foldedSetIterable iter X.env x = pure x := by intro _; rfl) :
    PE X (.ListComp elt [⟨tg, iter, ifs, 0⟩] scope pos) (tLc wi g tt te (own.map (·.2))) := pe_lc hc nd hi (blkOk_by ok) hg ht he hs
/-- f(..), f a def -/
theorem pcall {f : Addr} {x : Str} {fd : FuncData} {ps : List Str} {sp : Sp} {k : Nat} (G : FnOk X.prog X.w X.K X.mg X.base (L2.CX X.prog X.w) k f fd ps sp) (hr : Room k X.A) (D : Defn X.K X.mg x f fd ps) (ha : PA X (e :: es) t)
    (hg : Gl X x := by rfl) (hdb : (x == ("__debug__" : Str)) = false := by decide) (he : starEach (e :: es) X.env = (false, eval e X.env) :: starEach es X.env := by rfl) (hpl : (backTo pos (starEach es X.env)).any (·.1) = false := by rfl) :
    PE X (.Call (.Name x p) (e :: es) [] pos) (tCall sp [] E0 t) := pe_call G hr hg D.g D.k D.b .nil passL ha hdb he hpl
section
variable (ha : PA X (e :: es) t)
theorem bi_len (m : X.mg "len" = none) (ha : PA X (e :: es) t) (hg : Gl X "len" := by rfl) (he : starEach (e :: es) X.env = (false, eval e X.env) :: starEach es X.env := by rfl) (hpl : (backTo pos (starEach es X.env)).any (·.1) = false := by rfl) :
    PE X (.Call (.Name "len" p) (e :: es) [] pos) (tCB (rLen X.K) t) := pe_callB call_len hg m PySem.boot_len ha (by decide) (by decide) he hpl
theorem bi_isi (m : X.mg "isinstance" = none) (ha : PA X (e :: es) t) (hg : Gl X "isinstance" := by rfl) (he : starEach (e :: es) X.env = (false, eval e X.env) :: starEach es X.env := by rfl) (hpl : (backTo pos (starEach es X.env)).any (·.1) = false := by rfl) :
    PE X (.Call (.Name "isinstance" p) (e :: es) [] pos) (tCB (rIsi X.K) t) := pe_callB call_isi hg m PyProof.Rows.boot_isinstance ha (by decide) (by decide) he hpl
theorem bi_isi2 (m : X.mg "isinstance" = none) (ha : PA X (e :: es) t) (hg : Gl X "isinstance" := by rfl) (he : starEach (e :: es) X.env = (false, eval e X.env) :: starEach es X.env := by rfl) (hpl : (backTo pos (starEach es X.env)).any (·.1) = false := by rfl) :
    PE X (.Call (.Name "isinstance" p) (e :: es) [] pos) (tCB (rIsiT X.K) t) := pe_callB call_isiT hg m PyProof.Rows.boot_isinstance ha (by decide) (by decide) he hpl
theorem bi_sum (m : X.mg "sum" = none) (ha : PA X (e :: es) t) (hc : X.calm = true := by rfl) (hg : Gl X "sum" := by rfl) (he : starEach (e :: es) X.env = (false, eval e X.env) :: starEach es X.env := by rfl) (hpl : (backTo pos (starEach es X.env)).any (·.1) = false := by rfl) :
    PE X (.Call (.Name "sum" p) (e :: es) [] pos) (tCB (rSum X.K) t) := pe_callB (cr_sum hc) hg m PyProof.Rows.boot_sum ha (by decide) (by decide) he hpl
theorem bi_all (m : X.mg "all" = none) (ha : PA X (e :: es) t) (hc : X.calm = true := by rfl) (hg : Gl X "all" := by rfl) (he : starEach (e :: es) X.env = (false, eval e X.env) :: starEach es X.env := by rfl) (hpl : (backTo pos (starEach es X.env)).any (·.1) = false := by rfl) :
    PE X (.Call (.Name "all" p) (e :: es) [] pos) (tCB (rAll X.K) t) := pe_callB (cr_all hc) hg m PyProof.Rows.boot_all ha (by decide) (by decide) he hpl
theorem bi_max1 (m : X.mg "max" = none) (ha : PA X (e :: es) t) (hc : X.calm = true := by rfl) (hg : Gl X "max" := by rfl) (he : starEach (e :: es) X.env = (false, eval e X.env) :: starEach es X.env := by rfl) (hpl : (backTo pos (starEach es X.env)).any (·.1) = false := by rfl) :
    PE X (.Call (.Name "max" p) (e :: es) [] pos) (tCB (rMax X.K) t) := pe_callB (cr_max hc) hg m PyProof.Rows.boot_max ha (by decide) (by decide) he hpl
abbrev rMax2 : List V → Hp → VK → Prop := fun xs H Q => ∃ i j, xs = [.int i, .int j] ∧ Q (.int (if j > i then j else i)) H
abbrev rMin2 : List V → Hp → VK → Prop := fun xs H Q => ∃ i j, xs = [.int i, .int j] ∧ Q (.int (if j < i then j else i)) H
theorem bi_max2 (m : X.mg "max" = none) (ha : PA X (e :: es) t) (hc : X.calm = true := by rfl) (hg : Gl X "max" := by rfl) (he : starEach (e :: es) X.env = (false, eval e X.env) :: starEach es X.env := by rfl) (hpl : (backTo pos (starEach es X.env)).any (·.1) = false := by rfl) :
    PE X (.Call (.Name "max" p) (e :: es) [] pos) (tCB rMax2 t) := pe_callB (call_max2 hc) hg m PyProof.Rows.boot_max ha (by decide) (by decide) he hpl
theorem bi_min2 (m : X.mg "min" = none) (ha : PA X (e :: es) t) (hc : X.calm = true := by rfl) (hg : Gl X "min" := by rfl) (he : starEach (e :: es) X.env = (false, eval e X.env) :: starEach es X.env := by rfl) (hpl : (backTo pos (starEach es X.env)).any (·.1) = false := by rfl) :
    PE X (.Call (.Name "min" p) (e :: es) [] pos) (tCB rMin2 t) := pe_callB (call_min2 hc) hg m PyProof.Rows.boot_min ha (by decide) (by decide) he hpl
abbrev rAbs : List V → Hp → VK → Prop := fun xs H Q => ∃ i, xs = [.int i] ∧ Q (.int (if i < 0 then -i else i)) H
theorem bi_abs (m : X.mg "abs" = none) (ha : PA X (e :: es) t) (hg : Gl X "abs" := by rfl) (he : starEach (e :: es) X.env = (false, eval e X.env) :: starEach es X.env := by rfl) (hpl : (backTo pos (starEach es X.env)).any (·.1) = false := by rfl) :
    PE X (.Call (.Name "abs" p) (e :: es) [] pos) (tCB rAbs t) := pe_callB call_abs hg m PyProof.Rows.boot_abs ha (by decide) (by decide) he hpl
abbrev rInt : List V → Hp → VK → Prop := fun xs H Q => (∃ i, xs = [.int i] ∧ Q (.int i) H) ∨ ∃ k, xs = [.bl k] ∧ Q (.int (if k then 1 else 0)) H
theorem bi_int (m : X.mg "int" = none) (ha : PA X (e :: es) t) (hg : Gl X "int" := by rfl) (he : starEach (e :: es) X.env = (false, eval e X.env) :: starEach es X.env := by rfl) (hpl : (backTo pos (starEach es X.env)).any (·.1) = false := by rfl) :
    PE X (.Call (.Name "int" p) (e :: es) [] pos) (tCB rInt t) := pe_callTy call_int1 hg m PyProof.Rows.boot_int ha (by decide) (by decide) he hpl
theorem bi_tuple (m : X.mg "tuple" = none) (ha : PA X (e :: es) t) (hg : Gl X "tuple" := by rfl) (he : starEach (e :: es) X.env = (false, eval e X.env) :: starEach es X.env := by rfl) (hpl : (backTo pos (starEach es X.env)).any (·.1) = false := by rfl) :
    PE X (.Call (.Name "tuple" p) (e :: es) [] pos) (tCB (rTupOf X.K) t) := pe_callTy call_tuple_of hg m PyProof.Rows.boot_tuple ha (by decide) (by decide) he hpl
theorem bi_list (m : X.mg "list" = none) (ha : PA X (e :: es) t) (hg : Gl X "list" := by rfl) (he : starEach (e :: es) X.env = (false, eval e X.env) :: starEach es X.env := by rfl) (hpl : (backTo pos (starEach es X.env)).any (·.1) = false := by rfl) :
    PE X (.Call (.Name "list" p) (e :: es) [] pos) (tCB (rLstOf X.K) t) := pe_callTy call_list_of hg m PyProof.Rows.boot_list ha (by decide) (by decide) he hpl
end
/-- a built-in class as a value -/
theorem bt_int (m : X.mg "int" = none) (hg : Gl X "int" := by rfl) : PE X (.Name "int" pos) (tC (.ty "int")) := pe_bltn hg m PyProof.Rows.boot_int rfl (by decide) (by decide)
theorem bt_bool (m : X.mg "bool" = none) (hg : Gl X "bool" := by rfl) : PE X (.Name "bool" pos) (tC (.ty "bool")) := pe_bltn hg m PyProof.Rows.boot_bool rfl (by decide) (by decide)
theorem bt_str (m : X.mg "str" = none) (hg : Gl X "str" := by rfl) : PE X (.Name "str" pos) (tC (.ty "str")) := pe_bltn hg m PyProof.Rows.boot_str rfl (by decide) (by decide)
theorem bt_list (m : X.mg "list" = none) (hg : Gl X "list" := by rfl) : PE X (.Name "list" pos) (tC (.ty "list")) := pe_bltn hg m PyProof.Rows.boot_list rfl (by decide) (by decide)
theorem bt_tuple (m : X.mg "tuple" = none) (hg : Gl X "tuple" := by rfl) : PE X (.Name "tuple" pos) (tC (.ty "tuple")) := pe_bltn hg m PyProof.Rows.boot_tuple rfl (by decide) (by decide)
theorem bt_dict (m : X.mg "dict" = none) (hg : Gl X "dict" := by rfl) : PE X (.Name "dict" pos) (tC (.ty "dict")) := pe_bltn hg m PyProof.Rows.boot_dict rfl (by decide) (by decide)
/-- an int of the module -/
theorem pglob {x : Str} {n : Int} (hm : ∃ tk, X.mg x = some (.int n tk)) (hg : Gl X x := by rfl) (hd : (x == ("__debug__" : Str)) = false := by decide) : PE X (.Name x pos) (tC (.int n)) := by
  obtain ⟨tk, h⟩ := hm
  exact pe_glob hg h ⟨_, rfl⟩ hd
end
section
variable {W : Wd} {Γ : Gam} {K : PySem.W.Frag} {i j : Int} {b : Bool}
theorem cbt_abs : CbT W rAbs [dt K (.int i)] (dt K (.int (if i < 0 then -i else i))) := fun us H c hu Q q => by
  obtain ⟨v, rfl, h⟩ := hu.one
  cases h
  exact ⟨i, rfl, q _ H (Ex.refl _ _) (.int _)⟩
theorem cbt_max2 : CbT W rMax2 [dt K (.int i), dt K (.int j)] (dt K (.int (if j > i then j else i))) := fun us H c hu Q q => by
  obtain ⟨v, w, rfl, h, k⟩ := hu.two
  cases h
  cases k
  exact ⟨i, j, rfl, q _ H (Ex.refl _ _) (.int _)⟩
theorem cbt_min2 : CbT W rMin2 [dt K (.int i), dt K (.int j)] (dt K (.int (if j < i then j else i))) := fun us H c hu Q q => by
  obtain ⟨v, w, rfl, h, k⟩ := hu.two
  cases h
  cases k
  exact ⟨i, j, rfl, q _ H (Ex.refl _ _) (.int _)⟩
theorem cbt_intI : CbT W rInt [dt K (.int i)] (dt K (.int i)) := fun us H c hu Q q => by
  obtain ⟨v, rfl, h⟩ := hu.one
  cases h
  exact .inl ⟨i, rfl, q _ H (Ex.refl _ _) (.int _)⟩
theorem cbt_intB : CbT W rInt [dt K (.bool b)] (dt K (.int (if b then 1 else 0))) := fun us H c hu Q q => by
  obtain ⟨v, rfl, h⟩ := hu.one
  cases h
  exact .inr ⟨b, rfl, q _ H (Ex.refl _ _) (.int _)⟩
end
end Ew

end
section
set_option Elab.async false
set_option linter.all false
set_option maxRecDepth 100000
set_option maxHeartbeats 1000000
/-! EwE: comprehensions over lists of anything; more operators. -/
namespace Ew
open PySem PySem.Spec PyProof.Rows L2
section
variable {W : Wd} {Γ Γ' : Gam} {K : PySem.W.Frag} {T U A C P : Typ} {Ts Us : List Typ} {ds es : List PyData} {d : PyData} {ta : TA} {te tb : TE} {g : TG} {gs : TGs} {vs : List Nat} {α : Type} {xs : List α} {j : Nat} {wi : TI} {tt : TT}
theorem ty_andF (h1 : Ty W Γ te (dt K (.bool false))) : Ty W Γ (tAndV te tb) (dt K (.bool false)) := (ty_andV (b := false) h1 fun z => Bool.noConfusion z).is rfl
theorem ty_orTr (h1 : Ty W Γ te (dt K (.bool true))) : Ty W Γ (tOrV te tb) (dt K (.bool true)) := (ty_orV (b := true) h1 fun z => Bool.noConfusion z).is rfl
theorem tt_andF {tu : TT} (h1 : Tt W Γ tt (· = false)) : Tt W Γ (tAnd tt tu) (· = false) := (tt_andB (b := false) h1 fun z => Bool.noConfusion z).is rfl
theorem tt_orTr {tu : TT} (h1 : Tt W Γ tt (· = true)) : Tt W Γ (tOr tt tu) (· = true) := (tt_orB (b := true) h1 fun z => Bool.noConfusion z).is rfl
theorem range_map_getD (F : α → Typ) (y : α) : (List.range xs.length).map (fun i => F (xs.getD i y)) = xs.map F := by
  apply List.ext_getElem
  · simp
  · intro i h1 h2
    have hi : i < xs.length := by simpa using h2
    simp [List.getD_eq_getElem?_getD, List.getElem?_eq_getElem hi]
/-- a comprehension over what comes from xs -/
theorem tyl_mapT (A F : α → Typ) (hi : TyI W Γ wi (xs.map A)) (hz : xs.length ≤ 1000000) (gk : GOk g vs)
    (hs : ∀ (W' : Wd) x, x ∈ xs → ∃ Γi, TyG W' (wipeG Γ vs) g (A x) Γi ∧ Ty W' Γi te (F x)) : TyL W Γ (tLc wi g tYes te vs) (xs.map F) := by
  cases xs with
  | nil =>
    have h := tyl_lc1 (te := te) (fun _ => isV .non) hi (by simpa using hz) gk fun W' i T hT => by simp at hT
    simpa using h
  | cons y ys =>
    have h := tyl_lc1 (te := te) (fun i => F ((y :: ys).getD i y)) hi (by simpa using hz) gk fun W' i T hT => by
      rw [List.getElem?_map] at hT
      cases e : (y :: ys)[i]? with
      | none => rw [e] at hT; cases hT
      | some x =>
        rw [e] at hT
        cases hT
        obtain ⟨Γi, h1, h2⟩ := hs W' x (List.mem_of_getElem? e)
        refine ⟨Γi, h1, ?_⟩
        rw [List.getD_eq_getElem?_getD, e]
        exact h2
    rw [List.length_map, range_map_getD F y] at h
    exact h
/-- .. its items in the slot j -/
theorem tyl_map (A F : α → Typ) (hi : TyI W Γ wi (xs.map A)) (hz : xs.length ≤ 1000000) (hj : j ∈ vs) (hs : ∀ (W' : Wd) x, x ∈ xs → Ty W' ((wipeG Γ vs).set j (some (A x))) te (F x)) :
    TyL W Γ (tLc wi (gName j) tYes te vs) (xs.map F) := tyl_mapT A F hi hz (gok_name j hj) fun W' x hx => ⟨_, tyg_name j, hs W' x hx⟩
theorem filter_range_getD (F : α → Typ) (p : α → Bool) (y : α) : ((List.range xs.length).filter fun i => p (xs.getD i y)).map (fun i => F (xs.getD i y)) = (xs.filter p).map F := by
  have key : ∀ (l : List α), (∀ n, (List.range n).filterMap (fun i => if p (l.getD i y) = true then some (F (l.getD i y)) else none) = ((l ++ List.replicate (n - l.length) y).take n).filterMap fun x => if p x = true then some (F x) else none) := by
    intro l n
    have e : (List.range n).map (fun i => l.getD i y) = (l ++ List.replicate (n - l.length) y).take n := by
      apply List.ext_getElem
      · simp; omega
      · intro i h1 h2
        have hi : i < n := by simpa using h1
        simp only [List.getElem_map, List.getElem_range, List.getElem_take, List.getD_eq_getElem?_getD]
        by_cases hl : i < l.length
        · rw [List.getElem?_eq_getElem hl, List.getElem_append_left hl]; rfl
        · rw [List.getElem?_eq_none (by omega), List.getElem_append_right (by omega), List.getElem_replicate]; rfl
    rw [← e, List.filterMap_map]
    rfl
  have h := key xs xs.length
  rw [Nat.sub_self, List.replicate_zero, List.append_nil, List.take_length] at h
  have f1 : ∀ (l : List Nat), (l.filter fun i => p (xs.getD i y)).map (fun i => F (xs.getD i y)) = l.filterMap (fun i => if p (xs.getD i y) = true then some (F (xs.getD i y)) else none) := by
    intro l
    induction l with
    | nil => rfl
    | cons a l ih =>
      rw [List.filter_cons, List.filterMap_cons]
      by_cases c : p (xs.getD a y) = true
      · rw [if_pos c, if_pos c, List.map_cons, ih]
      · rw [if_neg c, if_neg c, ih]
  have f2 : ∀ (l : List α), (l.filter p).map F = l.filterMap (fun x => if p x = true then some (F x) else none) := by
    intro l
    induction l with
    | nil => rfl
    | cons a l ih =>
      rw [List.filter_cons, List.filterMap_cons]
      by_cases c : p a = true
      · rw [if_pos c, if_pos c, List.map_cons, ih]
      · rw [if_neg c, if_neg c, ih]
  rw [f1, f2, h]
/-- .. with a test -/
theorem tyl_filterT (A F : α → Typ) (p : α → Bool) (hi : TyI W Γ wi (xs.map A)) (hz : xs.length ≤ 1000000) (gk : GOk g vs)
    (hs : ∀ (W' : Wd) x, x ∈ xs → ∃ Γi, TyG W' (wipeG Γ vs) g (A x) Γi ∧ Tt W' Γi tt (· = p x) ∧ (p x = true → Ty W' Γi te (F x))) : TyL W Γ (tLc wi g tt te vs) ((xs.filter p).map F) := by
  cases xs with
  | nil =>
    have h := tyl_lc (te := te) (tt := tt) (fun _ => true) (fun _ => isV .non) hi (by simpa using hz) gk fun W' i T hT => by simp at hT
    simpa using h
  | cons y ys =>
    have h := tyl_lc (te := te) (tt := tt) (fun i => p ((y :: ys).getD i y)) (fun i => F ((y :: ys).getD i y)) hi (by simpa using hz) gk fun W' i T hT => by
      rw [List.getElem?_map] at hT
      cases e : (y :: ys)[i]? with
      | none => rw [e] at hT; cases hT
      | some x =>
        rw [e] at hT
        cases hT
        obtain ⟨Γi, h1, h2, h3⟩ := hs W' x (List.mem_of_getElem? e)
        refine ⟨Γi, h1, ?_, fun z => ?_⟩
        · rw [List.getD_eq_getElem?_getD, e]
          exact h2
        · rw [List.getD_eq_getElem?_getD, e] at z ⊢
          exact h3 z
    rw [List.length_map, filter_range_getD F p y] at h
    exact h
theorem tyl_filter (A F : α → Typ) (p : α → Bool) (hi : TyI W Γ wi (xs.map A)) (hz : xs.length ≤ 1000000) (hj : j ∈ vs)
    (hs : ∀ (W' : Wd) x, x ∈ xs → Tt W' ((wipeG Γ vs).set j (some (A x))) tt (· = p x) ∧ (p x = true → Ty W' ((wipeG Γ vs).set j (some (A x))) te (F x))) : TyL W Γ (tLc wi (gName j) tt te vs) ((xs.filter p).map F) :=
  tyl_filterT A F p hi hz (gok_name j hj) fun W' x hx => ⟨_, tyg_name j, hs W' x hx⟩
theorem ty_sumG {f : α → Int} (h : TyL W Γ te (xs.map fun x => dt K (.int (f x)))) : Ty W Γ (tCB (rSum K) (tCons te tNil)) (dt K (.int (xs.map f).sum)) := ty_sumOf (ns := xs.map f) (by rw [List.map_map]; exact h)
theorem ty_allG {p : α → Bool} (h : TyL W Γ te (xs.map fun x => dt K (.bool (p x)))) : Ty W Γ (tCB (rAll K) (tCons te tNil)) (dt K (.bool (xs.all p))) := (ty_allOf (bs := xs.map p) (by rw [List.map_map]; exact h)).is (by rw [List.all_map]; rfl)
theorem ty_tupG {f : α → PyData} (h : TyL W Γ te (xs.map fun x => dt K (f x))) : Ty W Γ (tCB (rTupOf K) (tCons te tNil)) (dt K (.tuple (xs.map f))) := (ty_tupOf (K := K) h).sub fun v H _ z => tupT_data (by rw [List.map_map]; exact z)
theorem ty_lstG {f : α → PyData} (h : TyL W Γ te (xs.map fun x => dt K (f x))) : Ty W Γ te (dt K (.list (xs.map f))) := h.ty.sub fun v H _ z => lstT_data (K := K) (by rw [List.map_map]; exact z)
/-- data one by one -/
theorem tyi_tupA {f : α → PyData} (h : Ty W Γ te (dt K (.tuple (xs.map f)))) : TyI W Γ (iTup K te) (xs.map fun x => dt K (f x)) := by
  have z := tyi_tupD h
  rw [List.map_map] at z
  exact z
theorem tyi_lstA {f : α → PyData} (h : Ty W Γ te (dt K (.list (xs.map f)))) : TyI W Γ (iList K te) (xs.map fun x => dt K (f x)) := by
  have z := tyi_lstD h
  rw [List.map_map] at z
  exact z
/-- zip of two tuples of data, of one length -/
theorem tyi_zipA {β γ : Type} {as : List β} {bs : List γ} {f : β → PyData} {h : γ → PyData} {tb : TE} (ha : Ty W Γ te (dt K (.tuple (as.map f)))) (hb : Ty W Γ tb (dt K (.tuple (bs.map h)))) :
    TyI W Γ (RZ.iZipA K (tCons te (tCons tb tNil))) ((as.zip bs).map fun p => tupT K [dt K (f p.1), dt K (h p.2)]) := by
  have z := tyi_zipT (W := W) (Γ := Γ) (K := K) (Ts := (as.map f).map (dt K)) (Us := (bs.map h).map (dt K)) (tya_cons (ha.sub fun _ _ _ => data_tupT) (tya_cons (hb.sub fun _ _ _ => data_tupT) tya_nil))
  have e : ((((as.map f).map (dt K)).zip ((bs.map h).map (dt K))).map fun p => tupT K [p.1, p.2]) = ((as.zip bs).map fun p => tupT K [dt K (f p.1), dt K (h p.2)]) := by
    rw [List.map_map, List.map_map, List.zip_map, List.map_map]
    rfl
  rw [e] at z
  exact z
/-- for a, b in ..: two slots -/
theorem tyg_pair {i k : Nat} : TyG W Γ (gTup K 2 (gCons (gName i) (gCons (gName k) gNil))) (tupT K [A, C]) ((Γ.set i (some A)).set k (some C)) := tyg_tup (tygs_cons (tyg_name i) (tygs_cons (tyg_name k) tygs_nil))
theorem gok_pair {i k : Nat} (hi : i ∈ vs) (hk : k ∈ vs) : GOk (gTup K 2 (gCons (gName i) (gCons (gName k) gNil))) vs := gok_tup (gok_cons (gok_name i hi) (gok_cons (gok_name k hk) gok_nil))
/-- range(n) -/
theorem tyi_rng {n : Nat} (h : TyA W Γ ta [dt K (.int (n : Nat))]) (hn : n ≤ 1000000000) : TyI W Γ (iRng1 ta) ((List.range n).map fun i => dt K (.int (i : Nat))) := by
  have z := tyi_rng1 h (by omega) (by omega)
  rw [Int.toNat_natCast] at z
  exact z
end
end Ew

end
section
set_option Elab.async false
set_option linter.all false
set_option maxRecDepth 100000
set_option maxHeartbeats 2000000
/-! EwX: an own exception class over a class whose __init__ says super().__init__(given); self.given = given. -/
namespace PySem
namespace WrX
open PySem.W PySem.Calls PyProof.Rows PySem.HandSPX
/-! ### the text of __init__ -/
def iA (p1 p2 p3 : Pos) : Arguments := { posonlyargs := [], args := [{ arg := "self", annotation := none, pos := p1 }, { arg := "given", annotation := none, pos := p2 }], vararg := none, kwonlyargs := [], kw_defaults := [], kwarg := none, defaults := [.Constant .none 0 p3] }
def iB (q1 q2 q3 q4 q5 q6 q7 q8 q9 q10 : Pos) : List Stmt := [.Expr (.Call (.Attribute (.Call (.Name "super" q1) [] [] q2) "__init__" q3) [.Name "given" q4] [] q5) q6, .Assign [.Attribute (.Name "self" q7) "given" q8] (.Name "given" q9) q10]
def iS : Scope := { kind := .function, names := [(PySem.Str.ofString "self", .local), (PySem.Str.ofString "given", .local), (PySem.Str.ofString "__class__", .free), (PySem.Str.ofString "super", .globalImplicit)], isGenerator := false, isCoroutine := false, more := [] }
abbrev veTail : List Value := [.type "ValueError", .type "Exception", .type "BaseException", .type "object"]
/-- what the written part says of the class D of the text, its __init__ at fI -/
structure BaseTxt (prog : Program) (K : Frag) (mg : Str → Option Value) (D fI : Addr) : Prop where
  fn : ∃ (oc : Value) (od : Option Addr) (Td : Addr) (kV doc pm : Value) (an : Option Addr) (cda cc : Addr) (ct : Value) (osl : Array (Option Value)) (p1 p2 p3 q1 q2 q3 q4 q5 q6 q7 q8 q9 q10 : Pos) (ccl cl : Value) (cdd cld : Option Addr) (vs : Array Value) (ccs csl : Array (Option Value)) (file : Str) (tf : Tok) (tc : Value) (td : Option Addr) (nT : Nat) (tsl : Array (Option Value)),
    K.lookup fI = some ⟨oc, od, .func (ksFn "__init__" "WrapError.__init__" (iA p1 p2 p3) (iB q1 q2 q3 q4 q5 q6 q7 q8 q9 q10) iS (.ref Td) kV doc pm an (.ref cda) ct cc), osl⟩ ∧ codeIn K (.ref cda) "WrapError.__init__" = true ∧
    K.lookup cda = some ⟨ccl, cdd, .fields vs, ccs⟩ ∧ vs[2]? = some (.str file tf) ∧ ((prog.main.file : Str) == file) = true ∧ K.lookup cc = some ⟨cl, cld, .cell (some (.ref D)), csl⟩ ∧ K.lookup Td = some ⟨tc, td, .seq #[.none] nT, tsl⟩ ∧ (q3.endLine == q5.line) = true
  cD : ∃ cdD, clsIn K D = some cdD
  mS : mg "super" = none
  top : (prog.main.scope.names.lookup ("super" : Str)).isSome = false
  any : nsIn K cStatics "thirdparty.any" = some none
/-- .. of a class C over it, without an __init__ of its own -/
structure ClsTxt (K : Frag) (mg : Str → Option Value) (nm : Str) (D fI C : Addr) : Prop where
  gC : mg nm = some (.ref C)
  cls : ∃ nm q N bs sn sub ab col dd k0 k1 k2 k3 k5, K.lookup C = some (excClassObj nm q C N bs (.ref D :: veTail) true sn sub ab col dd k0 k1 k2 k3 k5 "ValueError.__new__")
  sa : findIn K (.ref C) "__setattr__" = some (some (.builtin "object.__setattr__"))
  noN : findIn K (.ref C) "given" = some none
  iC : findIn K (.ref C) "__init__" = some (some (.ref fI))
  tI : typeIn K (.ref fI) = some (.type "function")
  kC : keepIn K (.ref C) = true
  exC : subIn K (.ref C) (.type "BaseException") = some true
  veC : subIn K (.ref C) (.type "ValueError") = some true
  tyC : typeIn K (.ref C) = some (.type "type")
  ne : C ≠ D
theorem one_size (v : Value) : [v].length ≤ sizeLine := by
  rw [sizeLine_eq]
  exact (by decide : 1 ≤ 16777216)
theorem refs (D : Addr) : refsVE (.ref D :: veTail) = true := by
  show refsVE veTail = true
  decide +kernel
theorem refs_two (C D : Addr) : refsVE (.ref C :: .ref D :: veTail) = true := by
  show refsVE veTail = true
  decide +kernel
theorem mro_has {K : Frag} {C D : Addr} {cd : ClassData} (hcd : clsIn K C = some cd) (hm : cd.mro = .ref C :: .ref D :: veTail) : mroIn K C (.ref D) = some true := by
  unfold mroIn
  rw [hcd, Option.bind_some, hm, if_neg (show ¬ (List.isEmpty (Value.ref C :: Value.ref D :: veTail) = true) from Bool.false_ne_true)]
  simp
theorem drop_to {C D : Addr} (h : C ≠ D) (l : List Value) : ((Value.ref C :: Value.ref D :: l).dropWhile (· != .ref D)).drop 1 = l := by
  have e : (Value.ref C != Value.ref D) = true := by simp [h]
  rw [List.dropWhile_cons, if_pos e, List.dropWhile_cons, if_neg (by simp)]
  rfl
theorem along_ve (K : Frag) : alongIn K "__init__" veTail = some (some (.builtin "ValueError.__init__")) := by kernel_rfl
section
variable {prog : Program} {w : World} {A : Around} {E : Value → Shared → Prop} {R : Result → Shared → Prop} {s : Shared} {K : Frag} {mg mb : Str → Option Value} {C D fI fJ : Addr}
/-- the bound ValueError.__init__ is called -/
theorem call_mw {h : Heap} {g : Array GenState} {d : Drawn} {t : Nat} {os : OsState} {nm q : Str} {N : Addr} {bs bm : List Value} {hdct : Bool} {sn : List Str} {sub : List Value} {ab : Bool} {col : Option Bool} {dd : Option Addr} {k0 k1 k2 k3 k5 : Option Value} {u e t0 : Addr} {rest : List Value} {Q : Value → Shared → Prop}
    (hC : h.get? C = some (excClassObj nm q C N bs bm hdct sn sub ab col dd k0 k1 k2 k3 k5 "ValueError.__new__")) (he : h.get? e = some (excO C t0)) (hu : h.get? u = some (kxs_mw "ValueError.__init__" e)) (hrest : rest.length ≤ sizeLine)
    (hq : ∀ h' t1, (∀ b o, b ≠ e → h.get? b = some o → h'.get? b = some o) → h'.get? e = some (excO C t1) → Q .none ⟨h', g, d, t, os⟩) :
    wpAny (model prog w) A (call (.ref u) rest) Q E ⟨h, g, d, t, os⟩ := by
  refine wpAny_call (codeAny_of_tree ?_)
  show wpAny _ A.in1 (callAny (.ref u) ⟨rest, []⟩) _ _ _
  simp only [callAny]
  refine wpAny_bind (wpAny_load hu ?_)
  simp only [kxs_mw, show (Value.type "method-wrapper" == Value.type "method" || Value.type "method-wrapper" == Value.type "builtin_function_or_method" || Value.type "method-wrapper" == Value.type "method-wrapper") = true by decide, if_true]
  refine KFB.if_so (by decide) ?_
  refine wpAny_bind (check_bound_init F.excBase_ValueError.toExcCallFacts hC he rfl ?_)
  refine wpAny_bind (wpAny_pure (wpAny_pure ?_))
  refine ⟨plainId_quiet F.excBase_ValueError.init.plain _, codeAny_builtin F.excBase_ValueError.initEntry ?_⟩
  rw [Around.under_plainId F.excBase_ValueError.init.plain _]
  exact exc_init_tree (cls := .ref C) (t0 := t0) (dv := none) (c2 := .none) (c3 := .none) (b4 := .bool false) he hrest fun h' k hx _ => hq h' _ k hx
theorem callWith_mw {pos : Pos} {u x : Addr} {env : Env} {e : Expr} {rest : List Expr} {Q : Value → Shared → Prop}
    (h : wpAny (model prog w) A (spliced (backTo pos (starEach (e :: rest) env))) (fun vs s₁ => KxsAt "ValueError.__init__" u x s₁.heap ∧ wpAny (model prog w) A (call (.ref u) vs) Q E s₁) E s)
    (he : starEach (e :: rest) env = (false, eval e env) :: starEach rest env := by rfl) (hplain : (backTo pos (starEach rest env)).any (·.1) = false := by rfl) :
    wpAny (model prog w) A (callWith pos (.ref u) [] (backTo pos (starEach (e :: rest) env)) []) Q E s := by
  rw [he] at h ⊢
  refine kxs_callWith (i := "ValueError.__init__") (x := x) (by show (false || (backTo pos (starEach rest env)).any (·.1)) = false; rw [hplain]; rfl) ?_
  exact evalArgs_plain h
/-- what __init__ leaves of a fresh exception at x -/
structure InitEnd (h h' : Heap) (x C dx t1 : Addr) (v : Value) : Prop where
  keep : ∀ b o, b ≠ x → h.get? b = some o → h'.get? b = some o
  obj : h'.get? x = some { cls := .ref C, dict := some dx, data := .fields #[.ref t1, .none, .none, .none, .bool false, .none] }
  dbig : h.objs.size ≤ dx
  dne : dx ≠ x
  ns : h'.Ns1 dx (fun y => if y = "given" then some v else none)
/-- a made one -/
structure OwnMade (h h' : Heap) (e C d : Addr) (v : Value) : Prop where
  keep : ∀ b o, h.get? b = some o → h'.get? b = some o
  new : h.objs.size ≤ e
  obj : ∃ oe vs, h'.get? e = some oe ∧ oe.cls = .ref C ∧ oe.dict = some d ∧ oe.data = .fields vs ∧ vs[1]? = some .none
  dbig : h.objs.size ≤ d
  dne : d ≠ e
  ns : h'.Ns1 d (fun y => if y = "given" then some v else none)
theorem boot_super : bootBuiltins "super" = some (.type "super") := by first | rfl | kernel_rfl
theorem ksLd {M : Model} {name : Str} {scope : Scope} {L a cc : Addr} {cd : Value} {m : Str → Option Value} {x : Str} {pos : Pos} {v : Value} {Q : Value → Shared → Prop} (hn : s.heap.Ns L m) (hv : m x = some v) (h : Q v s)
    (hk : scope.kind = .function := by rfl) (hl : (ksEnv name scope L a cd cc).kindOf x = some .local := by rfl) (hd : (x == ("__debug__" : Str)) = false := by decide) :
    wpAny M A (eval (.Name x pos) (ksEnv name scope L a cd cc)) Q E s := wpAny_Name (wpAny_loadName_local hk hl hn hv h) hd
theorem kept_but {h h' : Heap} {x : Addr} (X : K.In h) (hx : K.lookup x = none) (k : ∀ b o, b ≠ x → h.get? b = some o → h'.get? b = some o) : K.In h' := fun a o e =>
  k a o (fun z => by rw [z, hx] at e; cases e) (X a o e)
theorem he_line {o : Expr} {name : Str} {apos pos p4 : Pos} {x : Str} {env : Env} (hl : (apos.endLine == pos.line) = true) :
    eval (.Call (.Attribute o name apos) [.Name x p4] [] pos) env = (do
      let ov ← attributeBase o name env (eval o env)
      standAt apos.atName
      let (f, first) ← holding [ov] (getMethod ov name (L2.plainOf o env))
      callWith pos f first (backTo pos (starEach [.Name x p4] env)) []) := by
  have e : eval (.Call (.Attribute o name apos) [.Name x p4] [] pos) env = (do
    let ov ← attributeBase o name env (eval o env)
    standAt apos.atName
    methodCall o name apos pos env ov (List.length [Expr.Name x p4] + List.length ([] : List Keyword)) (backTo pos (starEach [.Name x p4] env)) (backToKw pos (keywordEach [] env))) := rfl
  rw [e]
  congr 1
  funext ov
  congr 1
  funext u
  exact L2.mcall_line rfl hl
theorem we_init {nm : Str} (Bt : BaseTxt prog K mg D fI) (T : ClsTxt K mg nm D fJ C) {x t0 : Addr} {v : Value} (X : K.In s.heap) (hlim : s.heap.NoLimit) (G : s.heap.Ns mainGlobals mg) (GB : ∃ mb, s.heap.Ns builtinsNs mb ∧ ∀ x : Str, x ≠ "__name__" → mb x = bootBuiltins x)
    (hx : s.heap.get? x = some (excO C t0)) (hnx : K.lookup x = none) (hroom : A.depth < recursionLimit)
    (hq : ∀ h' tk dx t1, InitEnd s.heap h' x C dx t1 v → R (.ok (.ret .none)) { s with heap := h', toks := tk }) :
    codeAny (model prog w) A (.call (.ref fI) ⟨[.ref x, v], []⟩) R s := by
  obtain ⟨oc, od, Td, kV, doc, pm, an, cda, cc, ct, osl, p1, p2, p3, q1, q2, q3, q4, q5, q6, q7, q8, q9, q10, ccl, cl, cdd, cld, vs, ccs, csl, file, tf, tc, td, nT, tsl, ho, hcd, hcode, hvs, hfile, hcell, hT, hline⟩ := Bt.fn
  obtain ⟨nm', q, N, bs, sn, sub, ab, col, dd, k0, k1, k2, k3, k5, hC⟩ := T.cls
  have hcl : clsIn K C = some { name := nm', bases := bs, mro := .ref C :: .ref D :: veTail, ns := N, qualname := q, hasDict := true, slotNames := sn, subclasses := sub, abstract := ab, collection := col, hasDel := false } := by unfold clsIn; rw [hC] <;> rfl
  obtain ⟨cdD, hD⟩ := Bt.cD
  obtain ⟨mb, hbn, hbm⟩ := GB
  obtain ⟨hp, g, d, t, os⟩ := s
  have hxC : x ≠ C := fun z => by rw [z, hC] at hnx; cases hnx
  refine ks_codeAny_call_defAt (fd := ksFn "__init__" "WrapError.__init__" (iA p1 p2 p3) (iB q1 q2 q3 q4 q5 q6 q7 q8 q9 q10) iS (.ref Td) kV doc pm an (.ref cda) ct cc) (body := iB q1 q2 q3 q4 q5 q6 q7 q8 q9 q10) (binds := [("self", .ref x), ("given", v)])
    hroom (X _ _ ho) rfl hlim (codeRec_of X hcd) rfl (L2.BindsTo.of_looks fun M => ?bind) ?cell ?loc (fun h₁ hns₁ k₁ => ?_) rfl rfl rfl
  case bind =>
    refine L2.looks_items (α := List (Str × Value)) X hT rfl (Looks.of_pure ?_)
    rfl
  case cell =>
    intro y hy
    rcases List.mem_cons.mp hy with rfl | hy
    · exact fun z => by cases z
    rcases List.mem_cons.mp hy with rfl | hy
    · exact fun z => by cases z
    rcases List.mem_cons.mp hy with rfl | hy
    · exact fun z => by cases z
    rcases List.mem_cons.mp hy with rfl | hy
    · exact fun z => by cases z
    cases hy
  case loc =>
    intro y hy
    rcases List.mem_cons.mp hy with rfl | hy
    · rfl
    rcases List.mem_cons.mp hy with rfl | hy
    · rfl
    cases hy
  have X₁ : K.In h₁ := X.keeps k₁
  have hx₁ := k₁ _ _ hx
  have hxL : hp.objs.size ≠ x := Nat.ne_of_gt (Heap.lt_size hx)
  obtain ⟨oD, hD1, hD2⟩ : ∃ oD, h₁.get? D = some oD ∧ oD.data = .cls cdD := by
    unfold clsIn at hD
    split at hD
    · rename_i c d cd' sl ho
      cases hD
      exact ⟨_, X₁ _ _ ho, rfl⟩
    · cases hD
  show _root_.PySem.wpAt (model prog w) _ (.func (iB q1 q2 q3 q4 q5 q6 q7 q8 q9 q10) (ksEnv "WrapError.__init__" iS hp.objs.size fI (.ref cda) cc)) (execs (iB q1 q2 q3 q4 q5 q6 q7 q8 q9 q10) (ksEnv "WrapError.__init__" iS hp.objs.size fI (.ref cda) cc)) _ _ _
  refine ks_wpAt_execs_cons ?_
  refine ks_wpAt_Expr_any ?_
  refine ks_wpAt_MethodCall (pl := L2.plainOf (.Call (.Name "super" q1) [] [] q2) (ksEnv "WrapError.__init__" iS hp.objs.size fI (.ref cda) cc)) ?_ (he_line hline)
  refine (ks_wpAt_super_base (env := ksEnv "WrapError.__init__" iS hp.objs.size fI (.ref cda) cc) rfl rfl (by decide) rfl (X₁ _ _ ho) rfl rfl rfl (X₁ _ _ hcode) rfl hvs hfile Bt.top ?_)
  refine ks_loadName_global rfl rfl (loadGlobal_builtin (env := ksEnv "WrapError.__init__" iS hp.objs.size fI (.ref cda) cc) (G.keeps k₁) Bt.mS (hbn.keeps k₁) ((hbm _ (by decide)).trans boot_super) ⟨rfl, ?_⟩)
  refine wpAny_loadName_free rfl rfl rfl ⟨_, X₁ _ _ hcell, rfl⟩ ?_
  refine wpAny_loadName_local (v := .ref x) rfl rfl hns₁ rfl ?_
  refine ks_wpAny_isType_cls hD1 hD2 ⟨rfl, ?_⟩
  refine ks_wpAny_call_super hD1 hD2 hx₁ rfl (fun c e => by cases e) (looks_mroIn X₁ (mro_has hcl rfl)) (fun h₂ hso k₂ => ?_)
  have X₂ : K.In h₂ := X₁.keeps k₂
  have hx₂ := k₂ _ _ hx₁
  have I₂ : InstAt h₂ x (excO C t0) C none := ⟨hx₂, rfl, rfl, trivial⟩
  refine kxs_getMethod kxs_ValueError hso (looks_opaque X₂ Bt.any) (l₀ := .ref C :: .ref D :: veTail) (fun A Q E s k q => wpAny_bind ((looks_clsIn X₂ hcl) A _ E s k (wpAny_pure q))) (drop_to T.ne _) X₂ (along_ve K) (I₂.type.andThen (looks_subIn X₂ T.veC)) hxC (by decide) ?_
  have k₃ : ∀ b o, h₂.get? b = some o → (h₂.push (kxs_mw "ValueError.__init__" x)).get? b = some o := fun b o e => Heap.get?_push_of_some _ e
  have hu : (h₂.push (kxs_mw "ValueError.__init__" x)).get? h₂.objs.size = some (kxs_mw "ValueError.__init__" x) := Heap.get?_push_at rfl rfl
  have hns₃ := (hns₁.keeps k₂).keeps k₃
  refine callWith_mw (u := h₂.objs.size) (x := x) ?_
  refine spliced_more ?_
  refine ksLd (v := v) hns₃ rfl ?_
  refine spliced_none ⟨hu, ?_⟩
  have k03 : ∀ b o, hp.get? b = some o → (h₂.push (kxs_mw "ValueError.__init__" x)).get? b = some o := fun b o e => k₃ b o (k₂ b o (k₁ b o e))
  refine call_mw (e := x) (k03 _ _ (X _ _ hC)) (k03 _ _ hx) hu (one_size v) (fun h₄ t1 k₄ hx₄ => ?_)
  have k04 : ∀ b o, b ≠ x → hp.get? b = some o → h₄.get? b = some o := fun b o hb e => k₄ b o hb (k03 b o e)
  have X₄ : K.In h₄ := kept_but X hnx k04
  have hns₄ : h₄.Ns hp.objs.size (fun y => List.lookup y [(PySem.Str.ofString "self", Value.ref x), (PySem.Str.ofString "given", v)].reverse) := by
    obtain ⟨oL, es, ep, hL, r⟩ := hns₃
    exact ⟨oL, es, ep, k₄ _ _ hxL hL, r⟩
  -- self.given = given
  refine ks_wpAt_execs_cons (_root_.PySem.wpAt_of_wpAny (plainObj_wpAny_Assign_Attribute ?_))
  refine ksLd (v := v) hns₄ rfl (ksLd (v := .ref x) hns₄ rfl ?_)
  refine set_plain X₄ (ox := excO C t1) (od := none) ⟨hx₄, rfl, rfl, trivial⟩ T.sa ?_
  refine exc_osa X₄ hx₄ hcl (refs_two C D) rfl T.noN (fun h₅ tk₅ dx k₅ dn dne hx₅ hn₅ => ?_)
  refine _root_.PySem.wpAt_of_wpAny (wpAny_execs_nil (hq h₅ tk₅ dx t1 ⟨fun b o hb e => k₅ b o hb (k04 b o hb e), hx₅, Nat.le_trans ?_ dn, dne, hn₅⟩))
  obtain ⟨oL, es, ep, hL, r⟩ := hns₄
  exact Nat.le_of_lt (Heap.lt_size hL)
theorem we_made {nm : Str} (Bt : BaseTxt prog K mg D fI) (T : ClsTxt K mg nm D fI C) {v : Value} (X : K.In s.heap) (hlim : s.heap.NoLimit) (G : s.heap.Ns mainGlobals mg) (GB : ∃ mb, s.heap.Ns builtinsNs mb ∧ ∀ x : Str, x ≠ "__name__" → mb x = bootBuiltins x) (hroom : A.depth + 1 < recursionLimit)
    (hq : ∀ h' tk e d, OwnMade s.heap h' e C d v → R (.ok (.ret (.ref e))) { s with heap := h', toks := tk }) :
    codeAny (model prog w) A (.call (.ref C) ⟨[v], []⟩) R s := by
  obtain ⟨nm', q, N, bs, sn, sub, ab, col, dd, k0, k1, k2, k3, k5, hC⟩ := T.cls
  obtain ⟨hp, g, dr, tk, os⟩ := s
  have k : ∀ b o, hp.get? b = some o → ((hp.push (kdv_tup [v])).push (excO C hp.objs.size)).get? b = some o := fun b o e => Heap.get?_push_of_some _ (Heap.get?_push_of_some _ e)
  have hget : ((hp.push (kdv_tup [v])).push (excO C hp.objs.size)).get? (hp.objs.size + 1) = some (excO C hp.objs.size) := by heap_get
  have hnx : K.lookup (hp.objs.size + 1) = none := by
    cases e : K.lookup (hp.objs.size + 1) with
    | none => rfl
    | some o =>
      have z : hp.get? (hp.objs.size + 1) = some o := X _ _ e
      exact absurd (Nat.lt_of_succ_lt (Heap.lt_size z)) (Nat.lt_irrefl _)
  refine call_own F.excBase_ValueError (fun X => refsVE_contains X _ (refs D)) (X _ _ hC) (looks_findIn X T.iC) (fun self => bind_fn X self T.tI) (one_size v) ?_
  obtain ⟨mb, hb1, hb2⟩ := GB
  refine we_init (s := ⟨(hp.push (kdv_tup [v])).push (excO C hp.objs.size), g, dr, tk, os⟩) Bt T (X.keeps k) (hlim.keeps k) (G.keeps k) ⟨mb, hb1.keeps k, hb2⟩ hget hnx ?_ fun h' tk' dx t1 ⟨k', hx, dn, dne, hns⟩ => ?_
  · show A.depth + 1 < recursionLimit
    exact hroom
  · have old : ∀ b o, hp.get? b = some o → h'.get? b = some o := fun b o e => k' b o (Nat.ne_of_lt (Nat.lt_succ_of_lt (Heap.lt_size e))) (k b o e)
    have z : hp.objs.size + 1 + 1 ≤ dx := by
      first
        | (simpa only [Heap.size_push] using dn)
        | exact dn
        | (have q := dn; rw [Heap.size_push, Heap.size_push] at q; exact q)
    exact ⟨rfl, hq h' tk' (hp.objs.size + 1) dx ⟨old, Nat.le_succ _, ⟨_, _, hx, rfl, rfl, rfl, rfl⟩, Nat.le_trans (Nat.le_trans (Nat.le_succ _) (Nat.le_succ _)) z, dne, hns⟩⟩
end
end WrX
end PySem
namespace L2
open PySem PySem.Spec PyProof.Rows
theorem relO_giv {v : V} {v' : Value} (r : RelV v v') (f : Str) : RelO (List.lookup f [(("given" : Str), v)]) (if f = "given" then some v' else none) := by
  by_cases hw : f = "given"
  · subst hw
    rw [if_pos rfl]
    have q : List.lookup ("given" : Str) [(("given" : Str), v)] = some v := by simp [List.lookup]
    rw [q]
    exact r
  · rw [if_neg hw]
    have qw : (f == ("given" : Str)) = false := by simpa using hw
    have q2 : List.lookup f [(("given" : Str), v)] = none := by simp [List.lookup, qw]
    rw [q2]
    trivial
section
variable {X : Cx} {D C fI : Addr} {nm : Str}
/-- C(e) -/
def tMkW (C : Addr) (ta : TA) : St → Hp → XK → Prop := fun σ H Q => ta σ H fun vs H1 => ∃ v, vs = [v] ∧ ∀ d, H1 d = none → Q (.ref C) (some d) (upd H1 d (.xd [(("given" : Str), v)]))
theorem pmk_wr {a : Expr} {ta : TA} {p pos : Pos} {k : Nat} (Bt : PySem.WrX.BaseTxt X.prog X.K X.mg D fI) (T : PySem.WrX.ClsTxt X.K X.mg nm D fI C) (hr : Room k X.A) (ha : PA X [a] ta) (hg : Gl X nm := by rfl) (hdb : (nm == ("__debug__" : Str)) = false := by decide)
    (he : starEach (a :: []) X.env = (false, eval a X.env) :: starEach [] X.env := by rfl) (hpl : (backTo pos (starEach [] X.env)).any (·.1) = false := by rfl) :
    PMk X (.Call (.Name nm p) [a] [] pos) (tMkW C ta) := by
  intro pins s σ H Q I h
  refine wpAny_Call_Name_kw (ld_glob I hg T.gC ?_ hdb)
  refine PySem.W.callWith_K (h₀ := X.base) I.ok.mod.kin T.kC (thn (ha.run pos pins s σ H _ I h) fun us s1 hh => ?_) he hpl
  obtain ⟨vs, H1, I1, r1, v, ev, q1⟩ := hh
  subst ev
  refine ⟨I1.kIn, ?_⟩
  cases r1 with
  | cons rv rn =>
    rename_i v' us'
    cases rn
    show wpAny _ _ (call (.ref C) [v']) _ _ _
    have hlim := I1.nolimit
    obtain ⟨mb, hb1, hb2⟩ := I1.mod.blt
    have hG := I1.mod.glob.keeps I1.bk
    have hB := hb1.keeps I1.bk
    have hK := I1.kIn
    obtain ⟨hp, g, dr, tk, os⟩ := s1
    refine wpAny_call (PySem.WrX.we_made Bt T hK hlim hG ⟨mb, hB, hb2⟩ (by have := hr.dp; omega) fun h' tk' e d M => ?_)
    show MkP X pins σ Q (.ref e) ⟨h', g, dr, tk', os⟩
    obtain ⟨oe, fv, hoe, hc, hd, hdat, h1⟩ := M.obj
    have hns := M.ns
    obtain ⟨G', g1, g2⟩ := restrict h' fun b => decide (b ≠ e)
    have gk : ∀ b, b ≠ e → G'.get? b = h'.get? b := fun b hb => g1 b (decide_eq_true hb)
    have ge : G'.get? e = none := g2 e (by simp)
    have old : ∀ b o, hp.get? b = some o → G'.get? b = some o := fun b o q => (gk b (Nat.ne_of_lt (Nat.lt_of_lt_of_le (Heap.lt_size q) M.new))).trans (M.keep b o q)
    have ob : ObjOk X.prog X.w (upd H1 d (.xd [(("given" : Str), v)])) G' d (.xd [(("given" : Str), v)]) :=
      ⟨_, hns.at (fun o q => (gk d M.dne).trans q), fun f => relO_giv rv f⟩
    have J : Inv X pins σ (upd H1 d (.xd [(("given" : Str), v)])) ⟨G', g, dr, tk', os⟩ := I1.laid (t' := tk') old M.dbig ob
    refine ⟨e, oe, fv, ⟨G', g, dr, tk', os⟩, _, .ref C, some d, rfl, J, fun b o q => ?_, ge, hoe, ⟨hc, hd⟩, hdat, h1, ?_, rfl, I1.bare, raises_own T.exC T.tyC, q1 d (I1.hok.fresh M.dbig)⟩
    · by_cases hb : b = e
      · have q' : G'.get? b = some o := q
        rw [hb, ge] at q'; cases q'
      · exact (gk b hb).symm.trans q
    · rw [upd_ne (Ne.symm M.dne)]
      exact I1.hok.fresh M.new
/-- raise C(e) -/
def tRaiseW (C : Addr) (W : WX) (ta : TA) : TS := fun _ σ H => tMkW C ta σ H fun cls d H' => W cls d σ H'
theorem ps_raiseW {a : Expr} {ta : TA} {W : WX} {p pos pos2 : Pos} {k : Nat} (hc : X.calm = true) (Bt : PySem.WrX.BaseTxt X.prog X.K X.mg D fI) (T : PySem.WrX.ClsTxt X.K X.mg nm D fI C) (hr : Room k X.A) (tk : Takes X W) (ha : PA X [a] ta) (hg : Gl X nm := by rfl) (hdb : (nm == ("__debug__" : Str)) = false := by decide)
    (he : starEach (a :: []) X.env = (false, eval a X.env) :: starEach [] X.env := by rfl) (hpl : (backTo pos (starEach [] X.env)).any (·.1) = false := by rfl) :
    PS X (.Raise (some (.Call (.Name nm p) [a] [] pos)) none pos2) (tRaiseW C W ta) := ps_raise hc tk (pmk_wr Bt T hr ha hg hdb he hpl)
end
end L2

end
section
set_option Elab.async false
set_option linter.all false
set_option maxRecDepth 100000
set_option maxHeartbeats 2000000
/-! EwY: several except clauses with names; defs that raise, by types; calls with keywords only. -/
namespace L2
open PySem PySem.Spec PyProof.Rows
abbrev Hdl := Value × Nat × (Addr → Value → Option Addr → TS)
def wManyA (K : PySem.W.Frag) (Wout : WX) (D : Ends) : List Hdl → WX
  | [] => Wout
  | (c, i, ts) :: r => fun cls d σ H => ∃ b, PySem.W.exmOne K cls c = some b ∧
    (b = true → ∀ a, H a = none → ts a cls d { nx := fun σ' H' => D.nx (σ'.set i none) H', rt := D.rt, bk := fun σ' H' => D.bk (σ'.set i none) H', ct := fun σ' H' => D.ct (σ'.set i none) H' } (σ.set i (some (.ref a))) H) ∧ (b = false → wManyA K Wout D r cls d σ H)
inductive HdsA (X : Cx) : List ExceptHandler → List Hdl → Prop
  | nil : HdsA X [] []
  | cons {x n : Str} {c : Value} {i : Nat} {ts : Addr → Value → Option Addr → TS} {b₀ : Stmt} {suite : List Stmt} {np pos' : Pos} {hds : List ExceptHandler} {l : List Hdl} (hi : X.N[i]? = some n) (hln : X.env.kindOf n = some .local) (hc : Names X x c)
      (hsu : ∀ (a : Addr) (oe : Obj) (cls : Value) (d : Option Addr) (pn : List (Addr × Obj)), Zc cls d oe → (∃ vs, oe.data = .fields vs) → PSs (X.suite a ((a, oe) :: pn)) (b₀ :: suite) (ts a cls d)) (r : HdsA X hds l) :
      HdsA X (.ExceptHandler (some (.Name x np)) (some n) (b₀ :: suite) pos' :: hds) ((c, i, ts) :: l)
/-- try .. except ..: tb the body -/
def tTry (K : PySem.W.Frag) (Wout : WX) (l : List Hdl) (tb : WX → TS) : TS := fun D σ H => tb (wManyA K Wout D l) D σ H
section
variable {X : Cx} {body : List Stmt} {h₀ : ExceptHandler} {hds : List ExceptHandler} {l : List Hdl} {pos : Pos} {tb : WX → TS} {Wout : WX}
theorem ps_try_manyA (hs : X.stack = X.env :: X.outer) (hf : X.env.frame = some X.env.locals) (hN : X.N.Nodup) (tk : Takes X Wout)
    (hb : ∀ (W : WX) (pn : List (Addr × Obj)) (xe : Value → Shared → Prop), Takes (X.tr pn xe) W → PassesOwn (model X.prog X.w) X.A X.env xe → PSs (X.tr pn xe) body (tb W))
    (hh : HdsA X (h₀ :: hds) l) : PS X (.Try body (h₀ :: hds) [] [] pos) (tTry X.K Wout l tb) := by
  refine ⟨fun pins s σ H D I h => ?_⟩
  have ok := I.ok
  have hfr : X.A.frames = some (X.env :: X.outer) := by rw [ok.frames, hs]
  refine wpAny_Try_except ?_
  refine wpAny_mono ((hb (wManyA X.K Wout D l) (X.pn ++ pins) (fun e s₁ => wpAny (model X.prog X.w) X.A (noteFrame e X.env) (fun _ s₂ => wpAny (model X.prog X.w) X.A (setFlight e none) (fun _ s₃ =>
    wpAny (model X.prog X.w) X.A (handleBy e X.env (h₀ :: hds)) (SP X pins D) X.xe s₃) X.xe s₂) X.xe s₁) (fun u s' xx => ?_) PassesOwn.looking).run [] s σ H D (I.toTry _) h) (fun f s1 hsp => ?_) (fun e s1 he => he)
  · -- the catch
    obtain ⟨a, B, sI, pins', σ', H', cls, d, rfl, J', nb, up, sky, na, os, ag, w⟩ := xx
    have J : Inv X pins σ' H' sI := J'.ofTry ok
    have sky' : Sky B (X.env :: X.outer) a (Zc cls d) X.env.locals s'.heap := by rw [← hs]; exact sky
    show wpAny (model X.prog X.w) X.A (noteFrame (.ref a) X.env) _ _ _
    refine Sky.land Zc.steady hfr hf sky' fun h3 fl3 up3 => ?_
    have J3 : Inv X pins σ' H' { s' with heap := h3 } := J.landed nb fl3.1 (up.trans up3) os ag
    obtain ⟨oe3, vs3, he3, hz3, hd3⟩ := fl3.there
    have notFr : ∀ {h : Heap} {o : Obj} {vs : Array Value}, h.FunFrames B (X.env :: X.outer) → h.get? a = some o → o.data = .fields vs → a ∉ frs (X.env :: X.outer) := fun {h o vs} ff e dd hm => by
      obtain ⟨_, o', e', hnf⟩ := ff.mem hm
      rw [e] at e'; cases e'
      exact hnf _ dd
    have nfr := notFr fl3.2.2.1 he3 hd3
    have nL : a ≠ X.env.locals := fun z => nfr (List.mem_filterMap.mpr ⟨X.env, List.mem_cons_self, by rw [hf, z]⟩)
    have nF : a ∉ X.fs := fun hm => by
      obtain ⟨e, he, q⟩ := List.mem_filterMap.mp hm
      exact nfr (List.mem_filterMap.mpr ⟨e, List.mem_cons_of_mem _ he, q⟩)
    have S3 := J3.suite he3 hd3 na nL nF
    have go : ∀ {hds' : List ExceptHandler} {l' : List Hdl}, HdsA X hds' l' → wManyA X.K Wout D l' cls d σ' H' →
        wpAny (model X.prog X.w) X.A (handleBy (.ref a) X.env hds') (SP X pins D) X.xe { s' with heap := h3 } := by
      intro hds' l' hk
      induction hk with
      | nil =>
        intro w
        refine wpAny_handleBy_nil ?_
        obtain ⟨k1, k2, k3, oe, vs, T, oT, ts', he, hz, hd, h1, hr⟩ := id fl3
        unfold PySem.passOn
        refine wpAny_bind (wpAny_field he hd h1 ?_)
        rw [if_neg (show ¬ ((Value.ref T == Value.none) = true) from by simp)]
        have fin : wpAny (model X.prog X.w) X.A (setFlight (.ref a) X.env.frame) (fun _ s4 => wpAny (model X.prog X.w) X.A (throw (.ref a) : Sem Flow) (SP X pins D) X.xe s4) X.xe { s' with heap := h3 } := by
          rw [hf]
          refine HandSPX.setFlight_upZ fl3 fun h4 hh4 up4 => wpAny_throw (tk _ _ ?_)
          exact ⟨a, B, sI, pins, σ', H', cls, d, rfl, J, nb, (up.trans up3).trans up4, .inr (.inr (by rw [hs]; exact hh4)), na, os, ag, w⟩
        first
          | exact wpAny_bind (wpAny_pure (wpAny_bind fin))
          | exact wpAny_bind fin
      | @cons x n c i ts b₀ suite np pos' hds2 l2 hi hln hc hsu r ih =>
        intro w
        have hloc : Loc X.env.scope n := .inl hln
        obtain ⟨b, hb1, hyes, hno⟩ := w
        refine wpAny_handleBy_cons (codeAny_handlers_test ?_) (by intro q; cases q)
        have LT : PySem.W.Looks (model X.prog X.w) h3 (typeOf (.ref a)) cls := fun A Q E s k q => wpAny_typeOf_ref (k _ _ he3) (by rw [hz3.1]; exact q)
        have LM := PySem.W.exm_one (M := model X.prog X.w) (J3.kIn) LT hb1
        have test : ∀ {Q : Value → Shared → Prop} {E : Value → Shared → Prop}, Q c { s' with heap := h3 } → wpAny (model X.prog X.w) (X.A.mark (some (.ref a))) (eval (.Name x np) X.env) Q E { s' with heap := h3 } := fun {Q E} q => by
          obtain ⟨hg, hdbg, hm | ⟨hm, hv, hnn⟩⟩ := hc
          · exact ld_glob (X := X.suite a ((a, oe3) :: (X.pn ++ pins))) S3 hg hm q hdbg
          · exact ld_blt (X := X.suite a ((a, oe3) :: (X.pn ++ pins))) S3 hg hm hv q hnn hdbg
        refine test (LM.here ?_)
        cases b with
        | true =>
          refine codeAny_handlers_suite_as ?_
          refine HandSPX.lands_againZ fl3 fun h4 fl4 up4 => ?_
          have J4 : Inv X pins σ' H' { s' with heap := h4 } := J.landed nb fl4.1 ((up.trans up3).trans up4) os ag
          obtain ⟨oe4, vs4, he4, hz4, hd4⟩ := fl4.there
          have S4 := J4.suite he4 hd4 na nL nF
          refine store_ok (X := X.suite a ((a, oe4) :: (X.pn ++ pins))) (v := .ref a) S4 hN hi hloc rfl (fun s5 S5 => ?_) (.inr hln)
          refine wpAny_mono ((hsu a oe4 cls d (X.pn ++ pins) hz4 ⟨_, hd4⟩).run [] s5 _ H' _ S5 (hyes rfl a na)) (fun f s6 hsp => ?_) (fun _ _ z => False.elim z)
          have end_ : ∀ {σ6 : St} {H6 : Hp} {Q : Shared → Prop}, Inv (X.suite a ((a, oe4) :: (X.pn ++ pins))) [] σ6 H6 s6 → (∀ s7, Inv X pins (σ6.set i none) H6 s7 → Q s7) →
              wpAny (model X.prog X.w) X.A (do bindName X.env n .none; unbindBehindTheSuite X.env n pos') (fun _ s7 => Q s7) X.xe s6 := fun {σ6 H6 Q} S6 hq => gone_ok (S6.unsuite ok) hN hi hln hq
          cases f with
          | next =>
            obtain ⟨σ6, H6, S6, q6⟩ := hsp
            exact end_ S6 fun s7 J7 => ⟨_, _, J7, q6⟩
          | brk =>
            obtain ⟨σ6, H6, S6, q6⟩ := hsp
            exact end_ S6 fun s7 J7 => ⟨_, _, J7, q6⟩
          | cont =>
            obtain ⟨σ6, H6, S6, q6⟩ := hsp
            exact end_ S6 fun s7 J7 => ⟨_, _, J7, q6⟩
          | ret u =>
            obtain ⟨v6, σ6, H6, S6, r6, q6⟩ := hsp
            exact end_ S6 fun s7 J7 => ⟨_, _, _, J7, r6, q6⟩
        | false =>
          show wpAny _ X.A (handleBy (.ref a) X.env hds2) _ _ _
          exact ih (hno rfl)
    exact go hh w
  · cases f with
    | next =>
      obtain ⟨σ', H', J', q⟩ := hsp
      exact wpAny_execs_nil ⟨σ', H', J'.ofTry ok, q⟩
    | brk =>
      obtain ⟨σ', H', J', q⟩ := hsp
      exact ⟨σ', H', J'.ofTry ok, q⟩
    | cont =>
      obtain ⟨σ', H', J', q⟩ := hsp
      exact ⟨σ', H', J'.ofTry ok, q⟩
    | ret u =>
      obtain ⟨v, σ', H', J', r, q⟩ := hsp
      exact ⟨v, σ', H', J'.ofTry ok, r, q⟩
theorem k_try {K : PySem.W.Frag} (hK : X.K = K) (hs : X.stack = X.env :: X.outer) (hf : X.env.frame = some X.env.locals) (hN : X.N.Nodup) (tk : Takes X Wout)
    (hb : ∀ (W : WX) (pn : List (Addr × Obj)) (xe : Value → Shared → Prop), Takes (X.tr pn xe) W → PassesOwn (model X.prog X.w) X.A X.env xe → PSs (X.tr pn xe) body (tb W))
    (hh : HdsA X (h₀ :: hds) l) : PS X (.Try body (h₀ :: hds) [] [] pos) (tTry K Wout l tb) := hK ▸ ps_try_manyA hs hf hN tk hb hh
end
/-! ### calls with keywords only -/
structure KB (K : PySem.W.Frag) (fd : FuncData) (ps ks : List Str) (g : List Value → List Value) (gV : List V → List V) : Prop where
  to : ∀ (s : Shared) (ws : List Value), K.In s.heap → (g ws).length = ps.length → BindsTo s fd ⟨[], ks.zip ws⟩ (ps.zip (g ws))
  rel : ∀ {zs : List V} {ws : List Value}, Vals zs ws → Vals (gV zs) (g ws)
def tCallKS (sp : Sp) (gV : List V → List V) (E : St → XK) (tk : TA) : TE := fun σ H Q => tk σ H fun zs H1 => sp (gV zs) H1 Q (E σ)
section
variable {X : Cx} {CX : CXT} {k : Nat} {f : Addr} {fd : FuncData} {ps ks : List Str} {sp : Sp} {E : St → XK} {x : Str} {p pos : Pos} {kws : List Keyword} {tk : TA} {g : List Value → List Value} {gV : List V → List V}
theorem pe_callKS (F : FnOk X.prog X.w X.K X.mg X.base CX k f fd ps sp) (hr : Room k X.A) (hg : Gl X x) (hm : X.mg x = some (.ref f)) (hk : PySem.W.keepIn X.K (.ref f) = true) (hb : KB X.K fd ps ks g gV) (hx : ∀ σ, PassesAt CX X σ (E σ))
    (hkw : PK X kws tk) (hall : (backToKw pos (keywordEach kws X.env)).all (·.1.isSome) = true := by rfl) (hks : (backToKw pos (keywordEach kws X.env)).filterMap (·.1) = ks := by rfl)
    (hdb : (x == ("__debug__" : Str)) = false := by decide) (hpl : ((backTo pos (starEach [] X.env)).any (·.1) || (backToKw pos (keywordEach kws X.env)).any (·.1.isNone)) = false := by rfl) :
    PE X (.Call (.Name x p) [] kws pos) (tCallKS sp gV E tk) := by
  refine ⟨fun pins s σ H Q I h => ?_⟩
  refine wpAny_Call_Name_kw (ld_glob I hg hm ?_ hdb)
  refine PySem.W.callWith_KW0 (h₀ := X.base) I.ok.mod.kin hk hall (thn (hkw.run pos pins s σ H _ I h) fun ws s2 ⟨zs, H2, I2, rz, q2⟩ => ⟨I2.kIn, ?_⟩) hpl
  rw [hks]
  show wpAny _ _ (call (.ref f) [] (ks.zip ws)) _ _ _
  have r2 := hb.rel rz
  have hl : (g ws).length = ps.length := by rw [← r2.length]; exact F.len _ _ _ _ q2
  refine wpAny_call (codeAny_mono (F.run X.A X.stack s2 H2 ⟨[], ks.zip ws⟩ (g ws) (gV zs) Q (E σ) hr I2.env0 (hb.to s2 ws I2.kIn hl) r2 q2) fun r s' hq => ?_)
  cases r with
  | error e => exact hx σ pins H2 s2 e s' I2 hq
  | ok fl =>
    cases fl with
    | ret u => exact I2.after hq
    | next => exact False.elim hq
    | brk => exact False.elim hq
    | cont => exact False.elim hq
end
section
variable {K : PySem.W.Frag} {x qual : Str} {st : Stmt} {f : Addr} {fd : FuncData} {ps ks : List Str}
/-- every parameter by its keyword, in order -/
theorem Fun.kb (F : Fun K x qual st f fd)
    (h : ∀ (kV doc pm : Value) (an : Option Addr) (cdv ct : Value) (us : List Value), us.length = ps.length → bindArgs (PySem.W.fnOf x qual (defArgs st) (defBody st) (defScope st) .none kV doc pm an cdv ct) ⟨[], ks.zip us⟩ = pure (ps.zip us)) : KB K fd ps ks id id := by
  obtain ⟨oc, od, kV, doc, pm, an, cdv, ct, osl, rfl, lk, hcd⟩ := F.ex
  exact ⟨fun s ws _ hl => .of_eq (h kV doc pm an cdv ct ws hl), fun r => r⟩
theorem vals_rev : ∀ {vs : List V} {us : List Value}, Vals vs us → Vals vs.reverse us.reverse
  | _, _, .nil => .nil
  | _, _, .cons r rs => by
    rw [List.reverse_cons, List.reverse_cons]
    exact (vals_rev rs).append (.cons r .nil)
/-- .. in the order turned -/
theorem Fun.kbR (F : Fun K x qual st f fd)
    (h : ∀ (kV doc pm : Value) (an : Option Addr) (cdv ct : Value) (us : List Value), us.length = ps.length → bindArgs (PySem.W.fnOf x qual (defArgs st) (defBody st) (defScope st) .none kV doc pm an cdv ct) ⟨[], ks.zip us⟩ = pure (ps.zip us.reverse)) : KB K fd ps ks List.reverse List.reverse := by
  obtain ⟨oc, od, kV, doc, pm, an, cdv, ct, osl, rfl, lk, hcd⟩ := F.ex
  exact ⟨fun s ws _ hl => .of_eq (h kV doc pm an cdv ct ws (by rw [List.length_reverse] at hl; exact hl)), fun r => vals_rev r⟩
end
end L2
namespace Ew
open PySem PySem.Spec PyProof.Rows L2
/-! ### errors by types -/
/-- an error at the dict dd holds a value of the type T -/
def Held (W : Wd) (T : Typ) (dd : Addr) (H : Hp) : Prop := ∃ v, H dd = some (.xd [(("given" : Str), v)]) ∧ T.at W v H
/-- as spT; where bad x tells a class and a type, an error of it instead -/
def spE {α : Type} (C : α → Prop) (A : α → List Typ) (R : α → Typ) (bad : α → Option (Addr × Typ)) : Sp := fun vs H Q E => ∃ (M B : Addr → Prop) (x : α), (∀ a, B a → M a) ∧ (∀ a, B a → BoxAt H a) ∧ (∀ a, M a → H a ≠ none) ∧ C x ∧ TysV M B (A x) vs H ∧
  (bad x = none → ∀ v H', Ex B H H' → (R x).p M B v H' → Q v H') ∧ (∀ c T, bad x = some (c, T) → ∀ dd v H', Ex B H H' → T.p M B v H' → H' dd = some (.xd [(("given" : Str), v)]) → E (.ref c) (some dd) H')
/-- an own error's class -/
def erT (dd a : Addr) (T : Typ) : Typ := ⟨fun M B v H => v = .ref a ∧ ∃ u, H dd = some (.xd [(("given" : Str), u)]) ∧ T.p M B u H, fun e ⟨h, u, h1, h2⟩ => ⟨h, u, e.keepT h1 (fun _ z => nomatch z), T.up e h2⟩, fun n ⟨h, u, h1, h2⟩ => ⟨h, u, h1, T.weak n h2⟩, fun ⟨h, u, h1, h2⟩ => ⟨h, u, h1, T.drop h2⟩⟩
section
variable {W : Wd} {Γ : Gam} {tl : TA} {te : TE} {T U : Typ} {α : Type} {C : α → Prop} {A : α → List Typ} {R : α → Typ} {bad : α → Option (Addr × Typ)} {Wx : WX} {N : Sx → Hp → Prop} {Rr : V → Hp → Prop} {Bk Ct : Sx → Hp → Prop} {c : Addr} {φ : Prop}
/-- what is wished of an error of the class c that holds a value of the type T -/
def ErK (W : Wd) (Γ : Gam) (Wx : WX) (c : Addr) (T : Typ) : Prop := ∀ dd σ H, nE W Γ σ H → Held W T dd H → Wx (.ref c) (some dd) σ H
theorem ty_callE (x : α) (hC : C x) (h : TyA W Γ tl (A x)) (hb : ∀ c T, bad x = some (c, T) → ErK W Γ Wx c T) : Ty W Γ (tCallS (spE C A R bad) (WE Wx) tl) (gd (bad x = none) (R x)) := fun σ H c g Q q =>
  h σ H c g _ fun vs H1 e1 hv => ⟨W.M, W.B, x, W.sub, (c.up e1).box, (c.up e1).al, hC, hv, fun k v H2 e2 h2 => q v H2 (e1.trans e2) ⟨k, h2⟩,
    fun cc T k dd v H' e2 h2 h3 => hb cc T k dd σ H' ⟨c.up (e1.trans e2), g.up (e1.trans e2).toW⟩ ⟨v, h3, h2⟩⟩
/-- .. where nothing is let out -/
theorem ty_callE0 {E : XK} (x : α) (hC : C x) (h : TyA W Γ tl (A x)) (hb : bad x = none) : Ty W Γ (tCall (spE C A R bad) [] E tl) (R x) := fun σ H c g Q q =>
  h σ H c g _ fun vs H1 e1 hv => ⟨W.M, W.B, x, W.sub, (c.up e1).box, (c.up e1).al, hC, by rw [List.append_nil]; exact hv, fun k v H2 e2 h2 => q v H2 (e1.trans e2) h2,
    fun cc T k => by rw [hb] at k; cases k⟩
theorem ty_callKE {gV : List V → List V} {Us : List Typ} (x : α) (hC : C x) (h : TyA W Γ tl Us) (hg : ∀ {vs H}, TysV W.M W.B Us vs H → TysV W.M W.B (A x) (gV vs) H) (hb : ∀ c T, bad x = some (c, T) → ErK W Γ Wx c T) :
    Ty W Γ (tCallKS (spE C A R bad) gV (WE Wx) tl) (gd (bad x = none) (R x)) := fun σ H c g Q q =>
  h σ H c g _ fun vs H1 e1 hv => ⟨W.M, W.B, x, W.sub, (c.up e1).box, (c.up e1).al, hC, hg hv, fun k v H2 e2 h2 => q v H2 (e1.trans e2) ⟨k, h2⟩,
    fun cc T k dd v H' e2 h2 h3 => hb cc T k dd σ H' ⟨c.up (e1.trans e2), g.up (e1.trans e2).toW⟩ ⟨v, h3, h2⟩⟩
theorem ty_callKE0 {gV : List V → List V} {Us : List Typ} (x : α) (hC : C x) (h : TyA W Γ tl Us) (hg : ∀ {vs H}, TysV W.M W.B Us vs H → TysV W.M W.B (A x) (gV vs) H) (hb : bad x = none) :
    Ty W Γ (tCallKS (spE C A R bad) gV (fun _ => E0) tl) (R x) := fun σ H c g Q q =>
  h σ H c g _ fun vs H1 e1 hv => ⟨W.M, W.B, x, W.sub, (c.up e1).box, (c.up e1).al, hC, hg hv, fun k v H2 e2 h2 => q v H2 (e1.trans e2) h2,
    fun cc T k => by rw [hb] at k; cases k⟩
theorem ty_callK0 {gV : List V → List V} {Us : List Typ} (x : α) (hC : C x) (h : TyA W Γ tl Us) (hg : ∀ {vs H}, TysV W.M W.B Us vs H → TysV W.M W.B (A x) (gV vs) H) :
    Ty W Γ (tCallKS (spT C A R) gV (fun _ => E0) tl) (R x) := fun σ H c g Q q =>
  h σ H c g _ fun vs H1 e1 hv => ⟨W.M, W.B, x, W.sub, (c.up e1).box, (c.up e1).al, hC, hg hv, fun v H2 e2 h2 => q v H2 (e1.trans e2) h2⟩
theorem tysv_id {vs : List V} {H : Hp} {Ts : List Typ} (h : TysV W.M W.B Ts vs H) : TysV W.M W.B Ts (id vs) H := h
theorem tysv_rev2 {vs : List V} {H : Hp} (h : TysV W.M W.B [T, U] vs H) : TysV W.M W.B [U, T] vs.reverse H := by
  match vs, h with
  | [a, b], h => exact ⟨h.2.1, h.1, True.intro⟩
theorem Ty.gd (h : Ty W Γ te (gd φ T)) : Ty W Γ te T := h.sub fun _ _ _ z => z.2
/-- a call as a statement: behind it φ holds -/
theorem tys_dropG (h : Ty W Γ te (Ew.gd φ T)) : TyS W Γ (tDrop te) (fun σ H => φ ∧ nE W Γ σ H) Rr Bk Ct := fun σ H c g D dn _ _ _ => h σ H c g _ fun v H1 e z => dn σ H1 e.toW ⟨z.1, c.up e, g.up e.toW⟩
theorem tys_seqG {ts tw : TS} (h1 : TyS W Γ ts (fun σ H => φ ∧ nE W Γ σ H) Rr Bk Ct) (h2 : φ → TyS W Γ tw N Rr Bk Ct) : TyS W Γ (tSeq ts tw) N Rr Bk Ct := tys_seq h1 fun σ H ⟨f, n⟩ => ⟨W, Γ, Wd.Like.refl W, n, h2 f⟩
theorem tys_raise (h : Ty W Γ te T) (k : ErK W Γ Wx c T) : TyS W Γ (tRaiseW c Wx (tCons te tNil)) noN Rr Bk Ct := fun σ H cx g D _ _ _ _ =>
  h σ H cx g _ fun v H1 e hv => ⟨v, rfl, fun d hd => k d σ _ ⟨cx.up (e.trans (Ex.new hd)), g.up (e.trans (Ex.new hd)).toW⟩ ⟨v, upd_same, T.up (Ex.new (B := W.B) hd).toW hv⟩⟩
/-- err.given in a suite -/
theorem ty_given {a dd : Addr} {cls : Value} {d : Option Addr} (hc : cls = .ref c) (hd : d = some dd) (h : Ty W Γ te (erT dd a T)) : Ty W Γ (tXf a cls d c "given" te) T := fun σ H cx g Q q =>
  h σ H cx g _ fun v H1 e ⟨e1, u, h1, h2⟩ => ⟨e1, hc, dd, _, u, hd, h1, by simp [List.lookup], q u H1 e h2⟩
/-- try: the errors that its body lets out -/
theorem tys_try {K : PySem.W.Frag} {Wout : WX} {l : List Hdl} {tb : WX → TS} {Er : Value → Option Addr → Sx → Hp → Prop} (hb : ∀ Wx : WX, (∀ c d σ H, Er c d σ H → Wx c d σ H) → TyS W Γ (tb Wx) N Rr Bk Ct)
    (hh : ∀ D : Ends, (∀ v H', Rr v H' → D.rt v H') → ∀ c d σ H, Er c d σ H → wManyA K Wout D l c d σ H) : TyS W Γ (tTry K Wout l tb) N Rr Bk Ct := fun σ H c g D dn dr db dc =>
  hb (wManyA K Wout D l) (hh D dr) σ H c g D dn dr db dc
/-- the first clause takes it -/
theorem hdl_hit {K : PySem.W.Frag} {Wout : WX} {l : List Hdl} {D : Ends} {i : Nat} {ts : Addr → Value → Option Addr → TS} {dd : Addr} {σ : Sx} {H : Hp} {cc : Value} (hc : PySem.W.exmOne K (.ref c) cc = some true) (n : nE W Γ σ H) (hd : Held W T dd H)
    (dr : ∀ v H', Rr v H' → D.rt v H') (hs : ∀ a, TyS W (Γ.set i (some (erT dd a T))) (ts a (.ref c) (some dd)) noN Rr noN noN) : wManyA K Wout D ((cc, i, ts) :: l) (.ref c) (some dd) σ H :=
  ⟨true, hc, fun _ a ha => by
    obtain ⟨u, h1, h2⟩ := hd
    exact hs a _ H n.1 (EnvL.set (T := erT dd a T) ⟨rfl, u, h1, h2⟩ n.2) _ (fun _ _ _ z => z.elim) dr (fun _ _ _ z => z.elim) (fun _ _ _ z => z.elim), fun z => Bool.noConfusion z⟩
theorem hdl_miss {K : PySem.W.Frag} {Wout : WX} {l : List Hdl} {D : Ends} {i : Nat} {ts : Addr → Value → Option Addr → TS} {d : Option Addr} {σ : Sx} {H : Hp} {cc cls : Value} (hc : PySem.W.exmOne K cls cc = some false) (h : wManyA K Wout D l cls d σ H) :
    wManyA K Wout D ((cc, i, ts) :: l) cls d σ H := ⟨false, hc, fun z => Bool.noConfusion z, fun _ => h⟩
end
section
variable {P : Program} {w : World} {K : PySem.W.Frag} {mg : Str → Option Value} {base : Heap}
/-- a def that may raise, by its typed body -/
theorem fn_tyE {x qual : Str} {st : Stmt} {f : Addr} {fd : FuncData} {N ps : List Str} {k : Nat} {α : Type} {C : α → Prop} {A : α → List Typ} {R : α → Typ} {bad : α → Option (Addr × Typ)} (F : Fun K x qual st f fd) (S : FnScope N ps (defScope st))
    (len : ∀ x, C x → (A x).length = ps.length)
    (hbody : ∀ (cdv : Value) (Ar : Around) (outer : List Env) (s : Shared) (H : Hp) (E : XK), Room k (Ar.deeper (envOfC qual (defScope st) s.heap.objs.size f cdv)) →
      ∃ t, PSs (cxOf (L2.CX P w) P w K mg base N qual (defScope st) f cdv Ar outer s H E) (defBody st) t ∧ ∀ (W : Wd) (x : α), C x → (∀ Γ c T, bad x = some (c, T) → ErK W Γ (fun cls d _ H => E cls d H) c T) →
        TyS W ((A x).map some ++ List.replicate (N.length - ps.length) none) t (fun _ H' => bad x = none ∧ rW W (R x) .non H') (fun v H => bad x = none ∧ rW W (R x) v H) noN noN) :
    FnOk P w K mg base (L2.CX P w) (k + 1) f fd ps (spE C A R bad) := by
  refine F.okX S (fun vs H Q E h => ?_) fun cdv Ar outer s H vs Q E hr h => ?_
  · obtain ⟨M, B, x, _, _, _, hC, h, _⟩ := h
    rw [h.length, len x hC]
  · obtain ⟨M, B, x, hs, hb, ha, hC, h, q, qe⟩ := h
    obtain ⟨t, ht, k⟩ := hbody cdv Ar outer s H E hr
    refine ⟨t, ht, k (Wd.base M B H hs) x hC (fun Γ c T hb dd σ H' n hl => ?_) (L2.start N vs) H ⟨hb, ha, Ex.refl B H, True.intro⟩ ?_ _ (fun σ' H' _ n => q n.1 _ _ n.2.1 n.2.2) (fun v H' n => q n.1 _ _ n.2.1 n.2.2) (fun _ _ _ z => z.elim) (fun _ _ _ z => z.elim)⟩
    · obtain ⟨v, h1, h2⟩ := hl
      exact qe c T hb dd v H' n.1.ex h2 h1
    · unfold L2.start
      have e : vs.length = ps.length := by rw [h.length, len x hC]
      rw [e]
      exact env_start h _
theorem tys_retE {W : Wd} {Γ : Gam} {te : TE} {T : Typ} {φ : Prop} {Bk Ct : Sx → Hp → Prop} (hφ : φ) (h : Ty W Γ te T) : TyS W Γ (tRet te) noN (fun v H => φ ∧ rW W T v H) Bk Ct := tys_ret h fun v H c k => ⟨hφ, c.ex, k⟩
theorem tys_retG {W : Wd} {Γ : Gam} {te : TE} {T : Typ} {φ : Prop} {Bk Ct : Sx → Hp → Prop} (h : Ty W Γ te (gd φ T)) : TyS W Γ (tRet te) noN (fun v H => φ ∧ rW W T v H) Bk Ct := tys_ret h fun v H c k => ⟨k.1, c.ex, k.2⟩
end
end Ew

end
section
set_option Elab.async false
set_option linter.all false
set_option maxRecDepth 100000
set_option maxHeartbeats 2000000
/-! EwZ: zip of a list with a tuple (turned from the worked proofs for two lists and for two tuples). -/
namespace RZ
open PySem
open PySem.Sem (wp)
section
variable {prog : Program} {w : World} {A : Around} {E : Value → Shared → Prop} {s : Shared}
theorem zipLT_next_item {z TI TO i1 i2 l1 l2 : Addr} {k1 k2 : Nat} {xs ys : Array Value} {x y a b : Value} {Q : Value → Shared → Prop} (D : ZipApart z TI TO i1 i2 l1 l2)
    (hz : IsZip s.heap z TI TO .none) (hTI : IsPair s.heap TI (.ref i1) (.ref i2)) (hTO : IsPair s.heap TO a b)
    (h1 : s.heap.IsListIter i1 l1 k1) (h2 : s.heap.IsTupleIter i2 l2 k2) (hl1 : s.heap.IsList l1 xs) (hl2 : s.heap.IsTuple l2 ys) (hx : xs[k1]? = some x) (hy : ys[k2]? = some y)
    (hQ : ∀ h', IsZip h' z TI TO (rawInt s.heap.objs.size) → IsPair h' TO x y → h'.IsListIter i1 l1 (k1 + 1) → h'.IsTupleIter i2 l2 (k2 + 1) → IsPair h' s.heap.objs.size x y → h'.objs.size = s.heap.objs.size + 1 →
      (∀ c o, c ≠ z → c ≠ TO → c ≠ i1 → c ≠ i2 → s.heap.get? c = some o → h'.get? c = some o) → Q (.ref s.heap.objs.size) { s with heap := h' }) :
    wpAny (model prog w) A (Builtin.«zip.__next__» ⟨[.ref z], []⟩) (fun fin s' => ∃ v, fin = .done (.ret v) ∧ Q v s') E s := by
  show wpAny _ _ (field (.ref z) 2 >>= _) _ _ _
  refine wpAny_bind (wpAny_field hz rfl (x := .bool false) rfl ?_)
  show wpAny _ _ (field (.ref z) 3 >>= _) _ _ _
  refine wpAny_bind (wpAny_field hz rfl (x := .ref TI) rfl ?_)
  refine wpAny_bind (wpAny_seqItems hTI rfl ?_)
  show wpAny _ _ (Builtin.SmallTypes.ownedTupleIsFree (.ref z) >>= _) _ _ _
  refine wpAny_bind ?_
  unfold Builtin.SmallTypes.ownedTupleIsFree
  refine wpAny_bind (wpAny_field hz rfl (x := .none) rfl (wpAny_pure ?_))
  simp only [if_true]
  refine wpAny_bind (wpAny_rule ?_)
  refine wpAny_bind (wpAny_field hz rfl (x := .ref TO) rfl ?_)
  refine wpAny_bind (wpAny_setField_rec hz (by simp) fun h₁ hz₁ hs₁ => ?_)
  replace hz₁ : IsZip h₁ z TI TO .ellipsis := hz₁
  refine wpAny_bind ?_
  simp only [List.zipIdx_cons, List.zipIdx_nil, List.forIn_cons, List.forIn_nil]

  refine wpAny_bind (wpAny_bind (wpAny_onRaise ?_))
  show wpAny _ _ (Builtin.SmallTypes.nextOf (.ref i1) >>= _) _ _ _
  refine wpAny_bind (wpAny_nextOf_list_item (h1.extBut hs₁.extBut D.i1z) (hl1.extBut hs₁.extBut D.l1z) hx fun h₂ h1₂ hs₂ => wpAny_pure ?_)
  have hTO₂ : IsPair h₂ TO a b := hs₂.extBut _ _ D.TOi1 (hs₁.extBut _ _ D.TOz hTO)
  refine wpAny_bind (wpAny_seqItems hTO₂ rfl ?_)
  refine wpAny_bind (wpAny_updateSeq_pair hTO₂ fun h₃ hTO₃ hs₃ => ?_)
  replace hTO₃ : IsPair h₃ TO x b := hTO₃
  refine wpAny_bind (wpAny_letGo (wpAny_pure ?_))

  refine wpAny_bind (wpAny_bind (wpAny_onRaise ?_))
  show wpAny _ _ (Builtin.SmallTypes.nextOf (.ref i2) >>= _) _ _ _
  refine wpAny_bind (nextOf_tuple_item (((h2.extBut hs₁.extBut D.i2z).extBut hs₂.extBut D.i12.symm).extBut hs₃.extBut D.TOi2.symm)
    (((hl2.extBut hs₁.extBut D.l2z).extBut hs₂.extBut D.l2i1).extBut hs₃.extBut D.l2TO) hy fun h₄ h2₄ hs₄ => wpAny_pure ?_)
  have hTO₄ : IsPair h₄ TO x b := hs₄.extBut _ _ D.TOi2 hTO₃
  refine wpAny_bind (wpAny_seqItems hTO₄ rfl ?_)
  refine wpAny_bind (wpAny_updateSeq_pair hTO₄ fun h₅ hTO₅ hs₅ => ?_)
  replace hTO₅ : IsPair h₅ TO x y := hTO₅
  refine wpAny_bind (wpAny_letGo (wpAny_pure (wpAny_pure ?_)))

  refine wpAny_bind (wpAny_seqItems hTO₅ rfl ?_)
  refine wpAny_bind (wpAny_newTuple ?_)
  have hsz : h₅.objs.size = s.heap.objs.size := by rw [hs₅.1, hs₄.1, hs₃.1, hs₂.1, hs₁.1]
  have hz₅ : IsZip h₅ z TI TO .ellipsis := hs₅.extBut _ _ D.TOz.symm (hs₄.extBut _ _ D.i2z.symm (hs₃.extBut _ _ D.TOz.symm (hs₂.extBut _ _ D.i1z.symm hz₁)))
  have hk₅ : ∀ c o, c ≠ z → c ≠ TO → c ≠ i1 → c ≠ i2 → s.heap.get? c = some o → h₅.get? c = some o := fun c o c1 c2 c3 c4 e =>
    hs₅.extBut _ _ c2 (hs₄.extBut _ _ c4 (hs₃.extBut _ _ c2 (hs₂.extBut _ _ c3 (hs₁.extBut _ _ c1 e))))
  have h1₅ : h₅.IsListIter i1 l1 (k1 + 1) := ((h1₂.extBut hs₃.extBut D.TOi1.symm).extBut hs₄.extBut D.i12).extBut hs₅.extBut D.TOi1.symm
  have h2₅ : h₅.IsTupleIter i2 l2 (k2 + 1) := h2₄.extBut hs₅.extBut D.TOi2.symm
  have hzlt : z < h₅.objs.size := Heap.lt_size hz₅
  have hTOlt : TO < h₅.objs.size := Heap.lt_size hTO₅
  have hi1lt : i1 < h₅.objs.size := by obtain ⟨_, e, _⟩ := h1₅; exact Heap.lt_size e
  have hi2lt : i2 < h₅.objs.size := by obtain ⟨_, e, _⟩ := h2₅; exact Heap.lt_size e
  show wpAny _ _ (Builtin.SmallTypes.ownedTupleHandOut (.ref z) (.ref h₅.objs.size) >>= _) _ _ _
  refine wpAny_bind ?_
  unfold Builtin.SmallTypes.ownedTupleHandOut
  have hz₆ : IsZip (h₅.push { cls := .type "tuple", data := .seq #[x, y] }) z TI TO .ellipsis := Heap.get?_push_of_some _ hz₅
  refine wpAny_bind (wpAny_setField_rec hz₆ (by simp) fun h₇ hz₇ hs₇ => ?_)
  replace hz₇ : IsZip h₇ z TI TO (rawInt h₅.objs.size) := hz₇
  refine wpAny_setField_rec hz₇ (by simp) fun h₈ hz₈ hs₈ => ?_
  replace hz₈ : IsZip h₈ z TI TO (rawInt h₅.objs.size) := hz₈
  have up : ∀ c o, c ≠ z → h₅.get? c = some o → h₈.get? c = some o := fun c o c1 e => hs₈.extBut _ _ c1 (hs₇.extBut _ _ c1 (Heap.get?_push_of_some _ e))
  have hT₈ : IsPair h₈ h₅.objs.size x y := hs₈.extBut _ _ (Nat.ne_of_gt hzlt) (hs₇.extBut _ _ (Nat.ne_of_gt hzlt) (Heap.get?_push_size _ rfl))
  have hz8 : h₈.objs.size = h₅.objs.size + 1 := by rw [hs₈.1, hs₇.1, Heap.size_push]
  rw [hsz] at hz₈ hT₈ hz8
  refine wpAny_pure ⟨_, rfl, ?_⟩
  show Q (.ref h₅.objs.size) _
  rw [hsz]
  exact hQ h₈ hz₈ (up _ _ D.TOz hTO₅) (h1₅.at fun o e => up _ o D.i1z e) (h2₅.at fun o e => up _ o D.i2z e) hT₈ hz8 fun c o c1 c2 c3 c4 e => up c o c1 (hk₅ c o c1 c2 c3 c4 e)

theorem zipLT_next_end {z TI TO i1 i2 l1 l2 : Addr} {k1 k2 : Nat} {xs ys : Array Value} {a b : Value} {Q : Fin → Shared → Prop} (hh : A.handled = none) (D : ZipApart z TI TO i1 i2 l1 l2)
    (hz : IsZip s.heap z TI TO .none) (hTI : IsPair s.heap TI (.ref i1) (.ref i2)) (hTO : IsPair s.heap TO a b)
    (h1 : s.heap.IsListIter i1 l1 k1) (h2 : s.heap.IsTupleIter i2 l2 k2) (hl1 : s.heap.IsList l1 xs) (hl2 : s.heap.IsTuple l2 ys) (hend : xs[k1]? = none ∨ ys[k2]? = none)
    (hE : ∀ h' e, (∀ c o, c ≠ z → c ≠ TO → c ≠ i1 → c ≠ i2 → s.heap.get? c = some o → h'.get? c = some o) → (∃ o, h'.get? e = some o ∧ o.cls = .type "StopIteration") → E (.ref e) { s with heap := h' }) :
    wpAny (model prog w) A (Builtin.«zip.__next__» ⟨[.ref z], []⟩) Q E s := by
  show wpAny _ _ (field (.ref z) 2 >>= _) _ _ _
  refine wpAny_bind (wpAny_field hz rfl (x := .bool false) rfl ?_)
  show wpAny _ _ (field (.ref z) 3 >>= _) _ _ _
  refine wpAny_bind (wpAny_field hz rfl (x := .ref TI) rfl ?_)
  refine wpAny_bind (wpAny_seqItems hTI rfl ?_)
  show wpAny _ _ (Builtin.SmallTypes.ownedTupleIsFree (.ref z) >>= _) _ _ _
  refine wpAny_bind ?_
  unfold Builtin.SmallTypes.ownedTupleIsFree
  refine wpAny_bind (wpAny_field hz rfl (x := .none) rfl (wpAny_pure ?_))
  simp only [if_true]
  refine wpAny_bind (wpAny_rule ?_)
  refine wpAny_bind (wpAny_field hz rfl (x := .ref TO) rfl ?_)
  refine wpAny_bind (wpAny_setField_rec hz (by simp) fun h₁ hz₁ hs₁ => ?_)
  replace hz₁ : IsZip h₁ z TI TO .ellipsis := hz₁
  refine wpAny_bind ?_
  simp only [List.zipIdx_cons, List.zipIdx_nil, List.forIn_cons, List.forIn_nil]
  refine wpAny_bind (wpAny_bind (wpAny_onRaise ?_))
  show wpAny _ _ (Builtin.SmallTypes.nextOf (.ref i1) >>= _) _ _ _
  cases hx : xs[k1]? with
  | none =>
    refine wpAny_bind (wpAny_nextOf_list_end hh (h1.extBut hs₁.extBut D.i1z) (hl1.extBut hs₁.extBut D.l1z) hx fun h₂ e hs₂ he => ?_)
    obtain ⟨oe, hoe, hce⟩ := he
    have hz₂ : IsZip h₂ z TI TO .ellipsis := hs₂ _ _ D.i1z.symm hz₁
    have hez : e ≠ z := fun x => by subst x; rw [hz₂] at hoe; cases hoe; simp at hce
    refine wpAny_setField_rec hz₂ (by simp) fun h₃ _ hs₃ => hE h₃ e (fun c o c1 _ c3 _ x => hs₃.extBut _ _ c1 (hs₂ _ _ c3 (hs₁.extBut _ _ c1 x))) ⟨oe, hs₃.extBut _ _ hez hoe, hce⟩
  | some x =>
    have hy : ys[k2]? = none := by rcases hend with h | h; rw [hx] at h; cases h; exact h
    refine wpAny_bind (wpAny_nextOf_list_item (h1.extBut hs₁.extBut D.i1z) (hl1.extBut hs₁.extBut D.l1z) hx fun h₂ h1₂ hs₂ => wpAny_pure ?_)
    have hTO₂ : IsPair h₂ TO a b := hs₂.extBut _ _ D.TOi1 (hs₁.extBut _ _ D.TOz hTO)
    refine wpAny_bind (wpAny_seqItems hTO₂ rfl ?_)
    refine wpAny_bind (wpAny_updateSeq_pair hTO₂ fun h₃ hTO₃ hs₃ => ?_)
    refine wpAny_bind (wpAny_letGo (wpAny_pure ?_))
    refine wpAny_bind (wpAny_bind (wpAny_onRaise ?_))
    show wpAny _ _ (Builtin.SmallTypes.nextOf (.ref i2) >>= _) _ _ _
    refine wpAny_bind (nextOf_tuple_end hh (((h2.extBut hs₁.extBut D.i2z).extBut hs₂.extBut D.i12.symm).extBut hs₃.extBut D.TOi2.symm)
      (((hl2.extBut hs₁.extBut D.l2z).extBut hs₂.extBut D.l2i1).extBut hs₃.extBut D.l2TO) hy fun h₄ e hs₄ he => ?_)
    obtain ⟨oe, hoe, hce⟩ := he
    have hz₄ : IsZip h₄ z TI TO .ellipsis := hs₄ _ _ D.i2z.symm (hs₃.extBut _ _ D.TOz.symm (hs₂.extBut _ _ D.i1z.symm hz₁))
    have hez : e ≠ z := fun x => by subst x; rw [hz₄] at hoe; cases hoe; simp at hce
    refine wpAny_setField_rec hz₄ (by simp) fun h₅ _ hs₅ => hE h₅ e (fun c o c1 c2 c3 c4 x => hs₅.extBut _ _ c1 (hs₄ _ _ c4 (hs₃.extBut _ _ c2 (hs₂.extBut _ _ c3 (hs₁.extBut _ _ c1 x))))) ⟨oe, hs₅.extBut _ _ hez hoe, hce⟩

theorem pyNext_zipLT_item {z TI TO i1 i2 l1 l2 : Addr} {k1 k2 : Nat} {xs ys : Array Value} {x y a b : Value} {Q : Option Value → Shared → Prop} (D : ZipApart z TI TO i1 i2 l1 l2)
    (hz : IsZip s.heap z TI TO .none) (hTI : IsPair s.heap TI (.ref i1) (.ref i2)) (hTO : IsPair s.heap TO a b)
    (h1 : s.heap.IsListIter i1 l1 k1) (h2 : s.heap.IsTupleIter i2 l2 k2) (hl1 : s.heap.IsList l1 xs) (hl2 : s.heap.IsTuple l2 ys) (hx : xs[k1]? = some x) (hy : ys[k2]? = some y)
    (hQ : ∀ h', IsZip h' z TI TO (rawInt s.heap.objs.size) → IsPair h' TO x y → h'.IsListIter i1 l1 (k1 + 1) → h'.IsTupleIter i2 l2 (k2 + 1) → IsPair h' s.heap.objs.size x y → h'.objs.size = s.heap.objs.size + 1 →
      (∀ c o, c ≠ z → c ≠ TO → c ≠ i1 → c ≠ i2 → s.heap.get? c = some o → h'.get? c = some o) → Q (some (.ref s.heap.objs.size)) { s with heap := h' }) :
    wpAny (model prog w) A (pyNext (.ref z)) Q E s := by
  have hT : s.TypeIs (.ref z) "zip" := ⟨_, hz, rfl⟩
  unfold pyNext
  exact wpAny_bind (wpAny_attempt (wpAny_callSpecial?_slot (name := Str.ofString "__next__") hT F.slot_zip_next
    (wpAny_call_entry F.slot_zip_next hT F.entry_zip_next
      (zipLT_next_item D hz hTI hTO h1 h2 hl1 hl2 hx hy fun h' a1 a2 a3 a4 a5 a6 a7 => wpAny_pure (hQ h' a1 a2 a3 a4 a5 a6 a7)) (F.args_zip_next_1 _))))

theorem pyNext_zipLT_end {z TI TO i1 i2 l1 l2 : Addr} {k1 k2 : Nat} {xs ys : Array Value} {a b : Value} {Q : Option Value → Shared → Prop} (hh : A.handled = none) (D : ZipApart z TI TO i1 i2 l1 l2)
    (hz : IsZip s.heap z TI TO .none) (hTI : IsPair s.heap TI (.ref i1) (.ref i2)) (hTO : IsPair s.heap TO a b)
    (h1 : s.heap.IsListIter i1 l1 k1) (h2 : s.heap.IsTupleIter i2 l2 k2) (hl1 : s.heap.IsList l1 xs) (hl2 : s.heap.IsTuple l2 ys) (hend : xs[k1]? = none ∨ ys[k2]? = none)
    (hQ : ∀ h', (∀ c o, c ≠ z → c ≠ TO → c ≠ i1 → c ≠ i2 → s.heap.get? c = some o → h'.get? c = some o) → Q none { s with heap := h' }) : wpAny (model prog w) A (pyNext (.ref z)) Q E s := by
  have hT : s.TypeIs (.ref z) "zip" := ⟨_, hz, rfl⟩
  unfold pyNext
  refine wpAny_bind (wpAny_attempt (wpAny_callSpecial?_slot (name := Str.ofString "__next__") hT F.slot_zip_next
    (wpAny_call_entry F.slot_zip_next hT F.entry_zip_next (zipLT_next_end hh D hz hTI hTO h1 h2 hl1 hl2 hend fun h' e hk he => ?_) (F.args_zip_next_1 _))))
  obtain ⟨o, ho, hc⟩ := he
  refine wpAny_bind (wpAny_isInstance (T := "StopIteration") (b := true) ⟨o, ho, hc⟩ isSubtype_stop ?_)
  exact wpAny_pure (hQ _ hk)
end

abbrev zipLTH1 (h : Heap) (l1 : Addr) : Heap := h.push { cls := .type "list_iterator", data := .fields #[.ref l1, .int 0 0] }
abbrev zipLTH2 (h : Heap) (l1 l2 : Addr) : Heap := (zipLTH1 h l1).push { cls := .type "tuple_iterator", data := .fields #[.ref l2, .int 0 0] }
abbrev zipLTH3 (h : Heap) (l1 l2 : Addr) : Heap := (zipLTH2 h l1 l2).push { cls := .type "tuple", data := .seq #[.ref h.objs.size, .ref (zipLTH1 h l1).objs.size] }
abbrev zipLTH4 (h : Heap) (l1 l2 : Addr) : Heap := (zipLTH3 h l1 l2).push { cls := .type "tuple", data := .seq #[.none, .none] }
abbrev zipLTH5 (h : Heap) (l1 l2 : Addr) : Heap := (zipLTH4 h l1 l2).push { cls := .type "zip", data := .fields #[.none, .bool false, .bool false, .ref (zipLTH2 h l1 l2).objs.size, .ref (zipLTH3 h l1 l2).objs.size] }

theorem meets_zipLT_new (l1 l2 : Addr) (xs ys : Array Value) :
    Meets (Builtin.«zip.__new__» ⟨[.type "zip", .ref l1, .ref l2], []⟩) (fun _ R s => s.heap.IsList l1 xs ∧ s.heap.IsTuple l2 ys ∧
      R (.ok (.ret (.ref (zipLTH4 s.heap l1 l2).objs.size))) { s with heap := zipLTH5 s.heap l1 l2 }) :=
  .of_wp fun prog w A R s h => by
    obtain ⟨hp, g, d, tk, os⟩ := s; obtain ⟨hl1, hl2, h⟩ := h
    have hsub := sub_zip
    have hL1 : Heap.IsList (Shared.heap ⟨hp, g, d, tk, os⟩) l1 xs := hl1
    have hL2 : Heap.IsTuple (Shared.heap ⟨hp.push { cls := .type "list_iterator", data := .fields #[.ref l1, .int 0 0] }, g, d, tk, os⟩) l2 ys := Heap.IsTuple.push hl2 _
    wp_walk using wpAny_pyIter_list hL1, wpAny_pyIter_tuple hL2
    exact ⟨_, rfl, h⟩

section
variable {prog : Program} {w : World} {A : Around} {E : Value → Shared → Prop} {s : Shared}

theorem call_zipLT {l1 l2 : Addr} {xs ys : Array Value} {Q : Value → Shared → Prop} (hl1 : s.heap.IsList l1 xs) (hl2 : s.heap.IsTuple l2 ys)
    (h : ∀ h', IsZip h' (s.heap.objs.size + 4) (s.heap.objs.size + 2) (s.heap.objs.size + 3) .none → IsPair h' (s.heap.objs.size + 2) (.ref s.heap.objs.size) (.ref (s.heap.objs.size + 1)) →
      IsPair h' (s.heap.objs.size + 3) .none .none → h'.IsListIter s.heap.objs.size l1 0 → h'.IsTupleIter (s.heap.objs.size + 1) l2 0 → h'.objs.size = s.heap.objs.size + 5 →
      (∀ c o, s.heap.get? c = some o → h'.get? c = some o) → Q (.ref (s.heap.objs.size + 4)) { s with heap := h' }) :
    wpAny (model prog w) A (call (.type "zip") [.ref l1, .ref l2]) Q E s := by
  refine callType_new F.called_zip (by decide) (F.typeCall_zip_2 _ _) (F.newCall_zip_2 _ _) (fun obj => F.args_object_init_3 obj _ _) F.entry_zip_new
    (meets_zipLT_new l1 l2 xs ys) ⟨hl1, hl2, ?_⟩
  have z1 : (zipLTH1 s.heap l1).objs.size = s.heap.objs.size + 1 := Heap.size_push ..
  have z2 : (zipLTH2 s.heap l1 l2).objs.size = s.heap.objs.size + 2 := by rw [Heap.size_push, z1]
  have z3 : (zipLTH3 s.heap l1 l2).objs.size = s.heap.objs.size + 3 := by rw [Heap.size_push, z2]
  have z4 : (zipLTH4 s.heap l1 l2).objs.size = s.heap.objs.size + 4 := by rw [Heap.size_push, z3]
  have z5 : (zipLTH5 s.heap l1 l2).objs.size = s.heap.objs.size + 5 := by rw [Heap.size_push, z4]
  have g5 : (zipLTH5 s.heap l1 l2).get? (zipLTH4 s.heap l1 l2).objs.size = some _ := Heap.get?_push_size _ rfl
  have g4 : (zipLTH5 s.heap l1 l2).get? (zipLTH3 s.heap l1 l2).objs.size = some _ := Heap.get?_push_of_some _ (Heap.get?_push_size _ rfl)
  have g3 : (zipLTH5 s.heap l1 l2).get? (zipLTH2 s.heap l1 l2).objs.size = some _ := Heap.get?_push_of_some _ (Heap.get?_push_of_some _ (Heap.get?_push_size _ rfl))
  have g2 : (zipLTH5 s.heap l1 l2).get? (zipLTH1 s.heap l1).objs.size = some _ := Heap.get?_push_of_some _ (Heap.get?_push_of_some _ (Heap.get?_push_of_some _ (Heap.get?_push_size _ rfl)))
  have g1 : (zipLTH5 s.heap l1 l2).get? s.heap.objs.size = some _ := Heap.get?_push_of_some _ (Heap.get?_push_of_some _ (Heap.get?_push_of_some _ (Heap.get?_push_of_some _ (Heap.get?_push_size _ rfl))))
  show _ ∧ _
  rw [z2, z3, z4] at g5
  rw [z1, z2] at g3
  rw [z3] at g4
  rw [z1] at g2
  rw [z4]
  exact ⟨⟨_, g5, rfl⟩, h _ g5 g3 g4 ⟨_, g1, rfl, rfl⟩ ⟨_, g2, rfl, rfl⟩ z5 fun c o x =>
    Heap.get?_push_of_some _ (Heap.get?_push_of_some _ (Heap.get?_push_of_some _ (Heap.get?_push_of_some _ (Heap.get?_push_of_some _ x))))⟩
end
end RZ
namespace RZ
open PySem PySem.Spec PyProof.Rows L2
/-- the list at a, the tuple at b as they stand at each turn, the items in new pairs -/
def ItzLT (K : PySem.W.Frag) (a b : Addr) : It :=
  ⟨fun i H => ∃ (xs ys : List V) (x y : V), SqL K H a xs ∧ SqT K H b ys ∧ xs[i]? = some x ∧ ys[i]? = some y,
    fun i H v H' => ∃ T x y, v = .ref T ∧ H T = none ∧ H' = upd H T (.tup [x, y]) ∧ (∀ xs, SqL K H a xs → xs[i]? = some x) ∧ ∀ ys, SqT K H b ys → ys[i]? = some y,
    fun i H => ∃ xs ys : List V, SqL K H a xs ∧ SqT K H b ys ∧ (xs.length ≤ i ∨ ys.length ≤ i)⟩
theorem turn_zipLT {P : Program} {w : World} {K : PySem.W.Frag} {elts : List Expr} {kk : Nat} {tpos : Pos} {a b z TI TO i1 i2 : Addr} (D : ZipApart z TI TO i1 i2 a b) :
    Turn P w K (.Tuple elts kk tpos) (ItzLT K a b) [z, TI, TO, i1, i2] z (fun i h => IsZip h z TI TO .none ∧ IsPair h TI (.ref i1) (.ref i2) ∧ (∃ x y, IsPair h TO x y) ∧ h.IsListIter i1 a i ∧ h.IsTupleIter i2 b i) where
  mem := by simp
  obj := fun i h st c hc => by
    obtain ⟨hz, hTI, ⟨x, y, hTO⟩, ⟨o1, e1, _, d1⟩, ⟨o2, e2, _, d2⟩⟩ := st
    have e' : c = z ∨ c = TI ∨ c = TO ∨ c = i1 ∨ c = i2 := by simpa using hc
    rcases e' with q | q | q | q | q
    · rw [q]; exact ⟨_, hz, fun v q => nomatch q⟩
    · rw [q]; exact ⟨_, hTI, fun v q => nomatch q⟩
    · rw [q]; exact ⟨_, hTO, fun v q => nomatch q⟩
    · rw [q]; exact ⟨o1, e1, fun v q => by rw [d1] at q; cases q⟩
    · rw [q]; exact ⟨o2, e2, fun v q => by rw [d2] at q; cases q⟩
  keep := fun i h h' st k => by
    obtain ⟨hz, hTI, ⟨x, y, hTO⟩, h1, h2⟩ := st
    exact ⟨k z (by simp) _ hz, k TI (by simp) _ hTI, ⟨x, y, k TO (by simp) _ hTO⟩, h1.at fun o q => k i1 (by simp) o q, h2.at fun o q => k i2 (by simp) o q⟩
  item := by
    intro X hP hw hK hc i pins s σ H E I hf st hg
    subst hP hw hK
    obtain ⟨hz, hTI, ⟨x0, y0, hTO⟩, h1, h2⟩ := st
    obtain ⟨xs, ys, x, y, hqx, hqy, hx, hy⟩ := hg
    obtain ⟨its, rv, p, _⟩ := I.list hqx
    obtain ⟨its2, rv2, p2, _⟩ := I.tuple hqy
    obtain ⟨u, hu, ru⟩ := rv.get hx
    obtain ⟨u2, hu2, ru2⟩ := rv2.get hy
    have hzl : z < s.heap.objs.size := Heap.lt_size hz
    refine pyNext_zipLT_item D hz hTI hTO h1 h2 p.isList p2 (x := u) (y := u2) (by simpa using hu) (by simpa using hu2) fun h' z' TO' h1' h2' hT hsz hk => ?_
    refine ⟨_, rfl, wpAny_letOwnedTupleGo_zip (s := { s with heap := h' }) z' fun h'' z'' sb => ?_⟩
    have hT2 : h''.get? s.heap.objs.size = some { cls := .type "tuple", data := .seq #[u, u2] } := (sb.2 _ (Nat.ne_of_gt hzl)).trans hT
    have new : ObjOk X.prog X.w (upd H s.heap.objs.size (.tup [x, y])) h'' s.heap.objs.size (.tup [x, y]) :=
      ⟨by show 2 ≤ sizeLine; decide, [u, u2], .cons ru (.cons ru2 .nil), ⟨_, hT2, rfl, _, rfl⟩⟩
    have I1 : Inv X pins σ (upd H s.heap.objs.size (.tup [x, y])) { s with heap := h'' } :=
      I.turnedNew (t' := s.toks) (ch := [z, TI, TO, i1, i2]) (fun c o hb q => (sb.2 c (fun q' => hb (by simp [q']))).trans (hk c o (fun q' => hb (by simp [q'])) (fun q' => hb (by simp [q'])) (fun q' => hb (by simp [q'])) (fun q' => hb (by simp [q'])) q)) hf (Nat.le_refl _) new
    refine ⟨.ref s.heap.objs.size, _, I1, rfl, ⟨_, x, y, rfl, I.hok.fresh (Nat.le_refl _), rfl, fun l hl => by rw [I.list_inj hl hqx]; exact hx, fun l hl => by rw [I.tuple_inj hl hqy]; exact hy⟩, ⟨z'', ?_, ⟨u, u2, ?_⟩, ?_, ?_⟩, fun c hcm => ?_⟩
    · exact (sb.2 _ D.TIz).trans (hk _ _ D.TIz D.TITO D.TIi1 D.TIi2 hTI)
    · exact (sb.2 _ D.TOz).trans TO'
    · exact h1'.at fun o q => (sb.2 _ D.i1z).trans q
    · exact h2'.at fun o q => (sb.2 _ D.i2z).trans q
    · have hlt : c < s.heap.objs.size := by
        have e' : c = z ∨ c = TI ∨ c = TO ∨ c = i1 ∨ c = i2 := by simpa using hcm
        rcases e' with q | q | q | q | q
        · rw [q]; exact hzl
        · rw [q]; exact Heap.lt_size hTI
        · rw [q]; exact Heap.lt_size hTO
        · rw [q]; obtain ⟨_, e1, _⟩ := h1; exact Heap.lt_size e1
        · rw [q]; obtain ⟨_, e2, _⟩ := h2; exact Heap.lt_size e2
      rw [upd_ne (Nat.ne_of_lt hlt)]
      exact (hf c hcm).1
  done := by
    intro X hP hw hK hc i pins s σ H E I hf st hg
    subst hP hw hK
    obtain ⟨hz, hTI, ⟨x0, y0, hTO⟩, h1, h2⟩ := st
    obtain ⟨xs, ys, hqx, hqy, hend⟩ := hg
    obtain ⟨its, rv, p, _⟩ := I.list hqx
    obtain ⟨its2, rv2, p2, _⟩ := I.tuple hqy
    have l1 := rv.length
    have l2 := rv2.length
    have he : its.toArray[i]? = none ∨ its2.toArray[i]? = none := by
      rcases hend with q | q
      · exact .inl (by simp; omega)
      · exact .inr (by simp; omega)
    exact pyNext_zipLT_end (I.ok.hd hc) D hz hTI hTO h1 h2 p.isList p2 he fun h' hk => ⟨rfl, I.turnedL (t' := s.toks) (ch := [z, TI, TO, i1, i2]) (fun c o hb q =>
      hk c o (fun q' => hb (by simp [q'])) (fun q' => hb (by simp [q'])) (fun q' => hb (by simp [q'])) (fun q' => hb (by simp [q'])) q) hf⟩
  self := fun A i s Q E st h => wpAny_pyIter_zip st.1 h

def iZipLT (K : PySem.W.Frag) (ta : TA) : TI := fun σ H R => ta σ H fun vs H1 => ∃ a b xs ys, vs = [.ref a, .ref b] ∧ SqL K H1 a xs ∧ SqT K H1 b ys ∧ R (ItzLT K a b) H1
theorem pi_zipLT {X : Cx} {e e2 : Expr} {ta : TA} {p pos tpos : Pos} {elts : List Expr} {kk : Nat} (hg : Gl X "zip") (hm : X.mg "zip" = none) (ha : PA X [e, e2] ta)
    (hs : starEach [e, e2] X.env = (false, eval e X.env) :: starEach [e2] X.env := by rfl) (hpl : (backTo pos (starEach [e2] X.env)).any (·.1) = false := by rfl) :
    PI X (.Tuple elts kk tpos) (.Call (.Name "zip" p) [e, e2] [] pos) (iZipLT X.K ta) := by
  refine ⟨fun pins s σ H R I h => ?_⟩
  refine Call_ (ld_blt I hg hm PyProof.Rows.boot_zip (PyProof.Rows.callWith_type1 (thn (ha.run pos pins s σ H _ I h) fun us s1 ⟨vs, H1, I1, r1, q1⟩ => ?_) hs hpl))
  obtain ⟨a, b, xs, ys, ex, q1⟩ := q1
  subst ex
  cases r1 with
  | cons r rr =>
    cases rr with
    | cons r' rr =>
      cases rr
      cases r
      cases r'
      have fresh5 : ∀ c, c ∈ [s1.heap.objs.size + 4, s1.heap.objs.size + 2, s1.heap.objs.size + 3, s1.heap.objs.size, s1.heap.objs.size + 1] → FpOk X pins H1 c := fun c hcm => by
        have e' : c = s1.heap.objs.size + 4 ∨ c = s1.heap.objs.size + 2 ∨ c = s1.heap.objs.size + 3 ∨ c = s1.heap.objs.size ∨ c = s1.heap.objs.size + 1 := by simpa using hcm
        have hle : s1.heap.objs.size ≤ c := by
          rcases e' with z | z | z | z | z
          · rw [z]; exact Nat.le_add_right _ _
          · rw [z]; exact Nat.le_add_right _ _
          · rw [z]; exact Nat.le_add_right _ _
          · rw [z]; exact Nat.le_refl _
          · rw [z]; exact Nat.le_add_right _ _
        exact I1.fpOk hle (I1.hok.fresh hle)
      obtain ⟨hqx, hqy, q⟩ := q1
      obtain ⟨its, rv, p1, _⟩ := I1.list hqx
      obtain ⟨its2, rv2, p2, _⟩ := I1.tuple hqy
      obtain ⟨o2, ho2, _⟩ := id p2
      refine call_zipLT p1.isList (show s1.heap.IsTuple b its2.toArray from p2) fun h' hz hTI hTO h1 h2 hsz hk => wpAny_pyIter_zip hz ?_
      have I2 : Inv X pins σ H1 { s1 with heap := h' } := I1.kept (t' := s1.toks) hk
      exact ⟨s1.heap.objs.size + 4, [s1.heap.objs.size + 4, s1.heap.objs.size + 2, s1.heap.objs.size + 3, s1.heap.objs.size, s1.heap.objs.size + 1], _, _, H1, rfl, I2, turn_zipLT (PySem.W.ktu_apart s1.heap.objs.size a b p1.lt (Heap.lt_size ho2)), ⟨hz, hTI, ⟨_, _, hTO⟩, h1, h2⟩, fresh5, q⟩

end RZ

end
section
set_option Elab.async false
set_option linter.all false
set_option maxRecDepth 100000
set_option maxHeartbeats 1000000
/-! EwV: more typed words. -/
namespace Ew
open PySem PySem.Spec PyProof.Rows L2
theorem passE0 {X : Cx} {σ : L2.St} : PassesAt (L2.CX X.prog X.w) X σ E0 := fun pins H s e s' I c => passL pins σ H s e s' I c
section
variable {W : Wd} {Γ Γ' : Gam} {K : PySem.W.Frag} {T U A C P : Typ} {Ts Us : List Typ} {ds es : List PyData} {d : PyData} {ta : TA} {te tb : TE} {g : TG} {vs : List Nat} {i j : Int}
theorem RpA.rep {M : Addr → Prop} {H : Hp} {vs : List V} {ds : List PyData} (h : RpA M K H vs ds) : ∀ n : Nat, RpA M K H (List.replicate n vs).flatten (List.replicate n ds).flatten
  | 0 => .nil
  | n + 1 => by
    rw [List.replicate_succ, List.replicate_succ, List.flatten_cons, List.flatten_cons]
    exact h.append (RpA.rep h n)
theorem TysV.rep {M B : Addr → Prop} {H : Hp} {vs : List V} (h : TysV M B Ts vs H) : ∀ n : Nat, TysV M B (List.replicate n Ts).flatten (List.replicate n vs).flatten H
  | 0 => True.intro
  | n + 1 => by
    rw [List.replicate_succ, List.replicate_succ, List.flatten_cons, List.flatten_cons]
    exact h.append (TysV.rep h n)
theorem len_rep {α : Type} (l : List α) (n : Nat) : (List.replicate n l).flatten.length = n * l.length := by
  induction n with
  | zero => simp
  | succ n ih => rw [List.replicate_succ, List.flatten_cons, List.length_append, ih]; rw [Nat.succ_mul]; omega
/-- list * int -/
theorem opt_repL (h0 : -1000 ≤ j) (h1 : j ≤ 1000) (hz : Ts.length ≤ 1000) : OpT W rRep (lstT Ts) (dt K (.int j)) (lstT (List.replicate j.toNat Ts).flatten) := fun u v H c hu hv Q q => by
  cases hv
  obtain ⟨a, xs, rfl, ha, h2, h3⟩ := hu
  refine ⟨a, j, xs, rfl, rfl, h2, by omega, by omega, ?_, fun p hp => q _ _ (Ex.new hp) ⟨p, _, rfl, c.nm hp, upd_same, (h3.rep _).up (Ex.new (B := W.B) hp).toW⟩⟩
  have e := h3.length
  refine sz_le ?_
  have : xs.length * j.toNat ≤ 1000 * 1000 := Nat.mul_le_mul (by omega) (by omega)
  omega
/-- tuple * int, not empty, at least 2 -/
theorem opt_repT (h0 : 2 ≤ j) (h1 : j ≤ 1000) (hn : ds ≠ []) (hz : ds.length ≤ 1000) : OpT W (rRepT K) (dt K (.tuple ds)) (dt K (.int j)) (dt K (.tuple (List.replicate j.toNat ds).flatten)) := fun u v H c hu hv Q q => by
  cases hv
  cases hu with
  | @tup a xs _ h2 h3 =>
    have e := h3.length
    refine ⟨a, j, xs, rfl, rfl, h2, fun z => hn ?_, h0, h1, by omega, fun p hp => q _ _ (Ex.new hp) (.tup (SqT.of upd_same) (RpA.up (Ex.new (B := W.B) hp).toW (h3.rep _)))⟩
    subst z
    exact List.eq_nil_of_length_eq_zero (by simpa using e.symm)
/-! ### a list and a tuple together -/
theorem walk_zipLT {a b : Addr} {xs ys : List V} {n : Nat} (hn : n = min xs.length ys.length) : Walk (RZ.ItzLT K a b) n (fun H => SqL K H a xs ∧ SqT K H b ys) (YPair (fun i => xs[i]?) (fun i => ys[i]?)) := by
  subst hn
  refine ⟨fun i _ hi q => ?_, fun _ q => ⟨xs, ys, q.1, q.2, by omega⟩, fun i H v H' _ q y => ?_⟩
  · have h1 : i < xs.length := by omega
    have h2 : i < ys.length := by omega
    exact ⟨xs, ys, xs[i], ys[i], q.1, q.2, by simp [h1], by simp [h2]⟩
  · obtain ⟨T, x, z, h1, h2, h3, h4, h5⟩ := y
    exact ⟨T, x, z, h1, h2, h3, h4 xs q.1, h5 ys q.2⟩
theorem tyi_zipLT (h : TyA W Γ ta [lstT Ts, tupT K Us]) : TyI W Γ (RZ.iZipLT K ta) ((Ts.zip Us).map fun p => tupT K [p.1, p.2]) := fun σ H c g R q => h σ H c g _ fun us H1 e hu => by
  obtain ⟨v, w, rfl, ⟨a, xs, rfl, h0, h2, h3⟩, ⟨b, ys, rfl, h4, h5⟩⟩ := hu.two
  refine ⟨a, b, xs, ys, rfl, SqL.of h2, h4, q _ H1 e ⟨fun H => SqL K H a xs ∧ SqT K H b ys, YPair (fun i => xs[i]?) (fun i => ys[i]?), ?_, ⟨SqL.of h2, h4⟩, fun M' m => ⟨fun Ha Hb f z => ⟨f.sqL (m.nm h2 h0) z.1, f.sqT z.2⟩, fun i Ha x Hb T hT f z y => ?_⟩⟩⟩
  · refine walk_zipLT ?_
    rw [List.length_map, List.length_zip]
    exact zip_len h3.length h5.length
  · obtain ⟨Tp, x0, y0, rfl, hn, rfl, ex, ey⟩ := y
    obtain ⟨A, C, q1, q2, rfl⟩ := zip_map_get hT
    obtain ⟨x1, e1, r1⟩ := (m.tys h3).get q1
    obtain ⟨y1, e2, r2⟩ := (m.tys h5).get q2
    have ex' := e1.symm.trans ex
    cases ex'
    have ey' := e2.symm.trans ey
    cases ey'
    exact ⟨Ex.new hn, Tp, _, rfl, SqT.of upd_same, Typ.up _ (f.trans ((Ex.new (B := W.B) hn).toM m.sub)) r1, Typ.up _ (f.trans ((Ex.new (B := W.B) hn).toM m.sub)) r2, True.intro⟩
theorem tyi_zipLTA {β γ : Type} {as : List β} {bs : List γ} {f : β → PyData} {h : γ → PyData} (ha : Ty W Γ te (dt K (.list (as.map f)))) (hb : Ty W Γ tb (dt K (.tuple (bs.map h)))) :
    TyI W Γ (RZ.iZipLT K (tCons te (tCons tb tNil))) ((as.zip bs).map fun p => tupT K [dt K (f p.1), dt K (h p.2)]) := by
  have z := tyi_zipLT (W := W) (Γ := Γ) (K := K) (Ts := (as.map f).map (dt K)) (Us := (bs.map h).map (dt K)) (tya_cons (ha.sub fun _ _ _ => data_lstT) (tya_cons (hb.sub fun _ _ _ => data_tupT) tya_nil))
  have e : ((((as.map f).map (dt K)).zip ((bs.map h).map (dt K))).map fun p => tupT K [p.1, p.2]) = ((as.zip bs).map fun p => tupT K [dt K (f p.1), dt K (h p.2)]) := by
    rw [List.map_map, List.map_map, List.zip_map, List.map_map]
    rfl
  rw [e] at z
  exact z
theorem opt_repI (h0 : -1000 ≤ j) (h1 : j ≤ 1000) (hz : ds.length ≤ 1000) : OpT W rRep (dt K (.list ds)) (dt K (.int j)) (dt K (.list (List.replicate j.toNat ds).flatten)) := fun u v H c hu hv Q q =>
  opt_repL (Ts := ds.map (dt K)) h0 h1 (by simpa using hz) u v H c (data_lstT hu) hv Q fun w H1 e z => q w H1 e (lstT_data (by
    have e2 : (List.replicate j.toNat (ds.map (dt K))).flatten = ((List.replicate j.toNat ds).flatten).map (dt K) := by rw [List.map_flatten, List.map_replicate]
    rw [e2] at z; exact z))
end
/-! ### words, K told -/
section
variable {X : Cx} {e : Expr} {es : List Expr} {t : TA} {p pos : Pos} {te : TE}
theorem k_len {K : PySem.W.Frag} (hK : X.K = K) (m : X.mg "len" = none) (ha : PA X (e :: es) t) (hg : Gl X "len" := by rfl) (he : starEach (e :: es) X.env = (false, eval e X.env) :: starEach es X.env := by rfl) (hpl : (backTo pos (starEach es X.env)).any (·.1) = false := by rfl) :
    PE X (.Call (.Name "len" p) (e :: es) [] pos) (tCB (rLen K) t) := hK ▸ bi_len m ha hg he hpl
theorem k_isi {K : PySem.W.Frag} (hK : X.K = K) (m : X.mg "isinstance" = none) (ha : PA X (e :: es) t) (hg : Gl X "isinstance" := by rfl) (he : starEach (e :: es) X.env = (false, eval e X.env) :: starEach es X.env := by rfl) (hpl : (backTo pos (starEach es X.env)).any (·.1) = false := by rfl) :
    PE X (.Call (.Name "isinstance" p) (e :: es) [] pos) (tCB (rIsi K) t) := hK ▸ bi_isi m ha hg he hpl
theorem k_isi2 {K : PySem.W.Frag} (hK : X.K = K) (m : X.mg "isinstance" = none) (ha : PA X (e :: es) t) (hg : Gl X "isinstance" := by rfl) (he : starEach (e :: es) X.env = (false, eval e X.env) :: starEach es X.env := by rfl) (hpl : (backTo pos (starEach es X.env)).any (·.1) = false := by rfl) :
    PE X (.Call (.Name "isinstance" p) (e :: es) [] pos) (tCB (rIsiT K) t) := hK ▸ bi_isi2 m ha hg he hpl
theorem k_tuple {K : PySem.W.Frag} (hK : X.K = K) (m : X.mg "tuple" = none) (ha : PA X (e :: es) t) (hg : Gl X "tuple" := by rfl) (he : starEach (e :: es) X.env = (false, eval e X.env) :: starEach es X.env := by rfl) (hpl : (backTo pos (starEach es X.env)).any (·.1) = false := by rfl) :
    PE X (.Call (.Name "tuple" p) (e :: es) [] pos) (tCB (rTupOf K) t) := hK ▸ bi_tuple m ha hg he hpl
theorem k_list {K : PySem.W.Frag} (hK : X.K = K) (m : X.mg "list" = none) (ha : PA X (e :: es) t) (hg : Gl X "list" := by rfl) (he : starEach (e :: es) X.env = (false, eval e X.env) :: starEach es X.env := by rfl) (hpl : (backTo pos (starEach es X.env)).any (·.1) = false := by rfl) :
    PE X (.Call (.Name "list" p) (e :: es) [] pos) (tCB (rLstOf K) t) := hK ▸ bi_list m ha hg he hpl
theorem k_sum {K : PySem.W.Frag} (hK : X.K = K) (m : X.mg "sum" = none) (ha : PA X (e :: es) t) (hc : X.calm = true := by rfl) (hg : Gl X "sum" := by rfl) (he : starEach (e :: es) X.env = (false, eval e X.env) :: starEach es X.env := by rfl) (hpl : (backTo pos (starEach es X.env)).any (·.1) = false := by rfl) :
    PE X (.Call (.Name "sum" p) (e :: es) [] pos) (tCB (rSum K) t) := hK ▸ bi_sum m ha hc hg he hpl
theorem k_all {K : PySem.W.Frag} (hK : X.K = K) (m : X.mg "all" = none) (ha : PA X (e :: es) t) (hc : X.calm = true := by rfl) (hg : Gl X "all" := by rfl) (he : starEach (e :: es) X.env = (false, eval e X.env) :: starEach es X.env := by rfl) (hpl : (backTo pos (starEach es X.env)).any (·.1) = false := by rfl) :
    PE X (.Call (.Name "all" p) (e :: es) [] pos) (tCB (rAll K) t) := hK ▸ bi_all m ha hc hg he hpl
theorem k_max1 {K : PySem.W.Frag} (hK : X.K = K) (m : X.mg "max" = none) (ha : PA X (e :: es) t) (hc : X.calm = true := by rfl) (hg : Gl X "max" := by rfl) (he : starEach (e :: es) X.env = (false, eval e X.env) :: starEach es X.env := by rfl) (hpl : (backTo pos (starEach es X.env)).any (·.1) = false := by rfl) :
    PE X (.Call (.Name "max" p) (e :: es) [] pos) (tCB (rMax K) t) := hK ▸ bi_max1 m ha hc hg he hpl
theorem k_add {K : PySem.W.Frag} (hK : X.K = K) : OpR X (binaryOp .Add) (rAddA K) := hK ▸ op_addA
theorem k_eq {K : PySem.W.Frag} (hK : X.K = K) (hu : X.A.units + 64 < cLine) : OpR X (compareOp .Eq) (rEqA K) := hK ▸ op_eqA hu
theorem k_ne {K : PySem.W.Frag} (hK : X.K = K) (hu : X.A.units + 64 < cLine) : OpR X (compareOp .NotEq) (rNeA K) := hK ▸ op_neA hu
theorem k_repT {K : PySem.W.Frag} (hK : X.K = K) : OpR X (binaryOp .Mult) (rRepT K) := hK ▸ op_repT
theorem k_ix {K : PySem.W.Frag} (hK : X.K = K) : IxR X (rIx K) := hK ▸ ix_seq
theorem k_slT {K : PySem.W.Frag} (hK : X.K = K) : SlR X (rSlT K) := hK ▸ sl_tup
theorem k_slL {K : PySem.W.Frag} (hK : X.K = K) : SlR X (rSlL K) := hK ▸ sl_list
theorem k_itup {K : PySem.W.Frag} (hK : X.K = K) {tg l : Expr} {tl : TE} (hl : PE X l tl) : PI X tg l (iTup K tl) := hK ▸ pi_tup hl
theorem k_ilist {K : PySem.W.Frag} (hK : X.K = K) {tg l : Expr} {tl : TE} (hl : PE X l tl) : PI X tg l (iList K tl) := hK ▸ pi_list hl
theorem k_ienum {K : PySem.W.Frag} (hK : X.K = K) {tpos : Pos} {elts : List Expr} {kk : Nat} (hm : X.mg "enumerate" = none) (ha : PA X [e] t) (hg : Gl X "enumerate" := by rfl) (hs : starEach [e] X.env = [(false, eval e X.env)] := by rfl) :
    PI X (.Tuple elts kk tpos) (.Call (.Name "enumerate" p) [e] [] pos) (iEnum K t) := hK ▸ pi_enum hg hm ha hs
theorem k_izip {K : PySem.W.Frag} (hK : X.K = K) {e2 : Expr} {tpos : Pos} {elts : List Expr} {kk : Nat} (hm : X.mg "zip" = none) (ha : PA X [e, e2] t) (hg : Gl X "zip" := by rfl) (hs : starEach [e, e2] X.env = (false, eval e X.env) :: starEach [e2] X.env := by rfl) (hpl : (backTo pos (starEach [e2] X.env)).any (·.1) = false := by rfl) :
    PI X (.Tuple elts kk tpos) (.Call (.Name "zip" p) [e, e2] [] pos) (RZ.iZipA K t) := hK ▸ RZ.pi_zipA hg hm ha hs hpl
theorem k_izipLT {K : PySem.W.Frag} (hK : X.K = K) {e2 : Expr} {tpos : Pos} {elts : List Expr} {kk : Nat} (hm : X.mg "zip" = none) (ha : PA X [e, e2] t) (hg : Gl X "zip" := by rfl) (hs : starEach [e, e2] X.env = (false, eval e X.env) :: starEach [e2] X.env := by rfl) (hpl : (backTo pos (starEach [e2] X.env)).any (·.1) = false := by rfl) :
    PI X (.Tuple elts kk tpos) (.Call (.Name "zip" p) [e, e2] [] pos) (RZ.iZipLT K t) := hK ▸ RZ.pi_zipLT hg hm ha hs hpl
theorem k_gtup {K : PySem.W.Frag} (hK : X.K = K) {ts : List Expr} {k : Nat} {u : TGs} {n : Nat} (h : PGs X ts u) (hc : X.calm = true := by rfl) (hn : (assignEach ts X.env).length = n := by rfl) (hst : (assignEach ts X.env).findIdx? (·.1) = none := by rfl) : PG X (.Tuple ts k pos) (gTup K n u) := hK ▸ pg_tup hc h hn hst
theorem k_gunl {K : PySem.W.Frag} (hK : X.K = K) {ts : List Expr} {k : Nat} {u : TGs} {n : Nat} (h : PGs X ts u) (hc : X.calm = true := by rfl) (hn : (assignEach ts X.env).length = n := by rfl) (hst : (assignEach ts X.env).findIdx? (·.1) = none := by rfl) : PG X (.Tuple ts k pos) (gUnl K n u) := hK ▸ pg_unl hc h hn hst
end
end Ew

end
section
set_option Elab.async false
set_option linter.all false
set_option maxRecDepth 100000
set_option maxHeartbeats 1000000
/-! EwU: lines and tables of ints as data; their equality; more typed words. -/
namespace Ew
open PySem PySem.Spec PyProof.Rows L2
def sizeD : PyData → Nat
  | .tuple l => l.length
  | .list l => l.length
  | .str s => s.length
  | .dict l => l.length
  | _ => 0
def intsD (l : List Int) : PyData := .tuple (l.map .int)
def linD (l : List Int) : PyData := .list (l.map .int)
def tabD (m : List (List Int)) : PyData := .tuple (m.map intsD)
def sm (v : Int) : Prop := v.natAbs < 2 ^ 4096
theorem sm_log {v : Int} (h : sm v) : v.natAbs.log2 < 5000 := by
  by_cases z : v.natAbs = 0
  · rw [z]; decide
  · have := (Nat.log2_lt z).mpr h
    omega
theorem sm_mul {a b : Int} (h : sm a) (k : sm b) : L2.CMulW a b := by
  have h1 := sm_log h
  have h2 := sm_log k
  unfold L2.CMulW
  omega
def sml (l : List Int) : Prop := l.length ≤ 1000 ∧ ∀ v ∈ l, sm v
def smt (m : List (List Int)) : Prop := m.length ≤ 1000 ∧ ∀ l ∈ m, sml l
def isWholeD : PyData → Bool
  | .int _ => true
  | _ => false
/-! ### equality of data -/
theorem lay_whole : ∀ {ds : List PyData}, ds.all isWholeD = true → PyData.canLayAll0 ds = true ∧ PyData.depthAll ds = 0
  | [], _ => ⟨rfl, rfl⟩
  | d :: ds, h => by
    rw [List.all_cons, Bool.and_eq_true] at h
    obtain ⟨h1, h2⟩ := h
    obtain ⟨k1, k2⟩ := lay_whole h2
    cases d <;> simp [isWholeD] at h1
    exact ⟨by simp [PyData.canLayAll0, PyData.canLay0, k1], by simp [PyData.depthAll, PyData.depth, k2]⟩
theorem shaped_whole {ds : List PyData} (h : ds.all isWholeD = true) : SeqAt.shaped (.tuple ds) = true := by
  obtain ⟨k1, k2⟩ := lay_whole h
  simp [SeqAt.shaped, PyData.canLay0, PyData.depth, k1, k2]
theorem all_whole (l : List Int) : (l.map PyData.int).all isWholeD = true := by
  rw [List.all_map]
  exact List.all_eq_true.mpr fun _ _ => rfl
theorem shaped_ints (l : List Int) : SeqAt.shaped (intsD l) = true := shaped_whole (all_whole l)
theorem lay_tab : ∀ m : List (List Int), PyData.canLayAll0 (m.map intsD) = true ∧ PyData.depthAll (m.map intsD) ≤ 1
  | [] => ⟨rfl, by simp [PyData.depthAll]⟩
  | l :: m => by
    obtain ⟨k1, k2⟩ := lay_tab m
    obtain ⟨h1, h2⟩ := lay_whole (all_whole l)
    refine ⟨?_, ?_⟩
    · rw [List.map_cons, PyData.canLayAll0, k1, intsD, PyData.canLay0, h1]; rfl
    · rw [List.map_cons, PyData.depthAll, intsD, PyData.depth, h2]
      exact Nat.max_le.mpr ⟨Nat.le_refl _, k2⟩
theorem shaped_tab (m : List (List Int)) : SeqAt.shaped (tabD m) = true := by
  obtain ⟨k1, k2⟩ := lay_tab m
  unfold SeqAt.shaped tabD
  rw [PyData.canLay0, k1, PyData.depth, Bool.true_and]
  exact decide_eq_true (by omega)
theorem eqv_nil (ds : List PyData) : PyData.eqv (.tuple ds) (.tuple []) = decide (ds.length = 0) := by
  cases ds <;> simp [PyData.eqv, PyData.eqvAll]
theorem eqv_nilL (ds : List PyData) : PyData.eqv (.list ds) (.list []) = decide (ds.length = 0) := by
  cases ds <;> simp [PyData.eqv, PyData.eqvAll]
theorem eqvAll_ints : ∀ a b : List Int, PyData.eqvAll (a.map .int) (b.map .int) = decide (a = b)
  | [], [] => by simp [PyData.eqvAll]
  | [], b :: bs => by simp [PyData.eqvAll]
  | a :: as, [] => by simp [PyData.eqvAll]
  | a :: as, b :: bs => by
    rw [List.map_cons, List.map_cons, PyData.eqvAll, eqvAll_ints as bs, PyData.eqv]
    by_cases h1 : a = b <;> by_cases h2 : as = bs <;> simp [h1, h2]
theorem eqv_ints (a b : List Int) : PyData.eqv (intsD a) (intsD b) = decide (a = b) := by
  rw [intsD, intsD, PyData.eqv, eqvAll_ints]
theorem eqvAll_tab : ∀ a b : List (List Int), PyData.eqvAll (a.map intsD) (b.map intsD) = decide (a = b)
  | [], [] => by simp [PyData.eqvAll]
  | [], b :: bs => by simp [PyData.eqvAll]
  | a :: as, [] => by simp [PyData.eqvAll]
  | a :: as, b :: bs => by
    rw [List.map_cons, List.map_cons, PyData.eqvAll, eqvAll_tab as bs, eqv_ints]
    by_cases h1 : a = b <;> by_cases h2 : as = bs <;> simp [h1, h2]
theorem eqv_tab (a b : List (List Int)) : PyData.eqv (tabD a) (tabD b) = decide (a = b) := by
  rw [tabD, tabD, PyData.eqv, eqvAll_tab]
section
variable {W : Wd} {Γ Γ' : Gam} {K : PySem.W.Frag} {T U A C P : Typ} {Ts Us : List Typ} {ds es : List PyData} {d : PyData} {ta tc : TA} {te tb td : TE} {g : TG} {vs : List Nat} {i j : Int} {r r' : R2} {a b : Bool}
theorem ty_chain {ta tb tc : TE} (h1 : Ty W Γ ta A) (h2 : Ty W Γ tb C) (ho : OpT W r A C (dt K (.bool a))) (h3 : a = true → Ty W Γ tc P) (ho' : OpT W r' C P (dt K (.bool b))) : Ty W Γ (tChain r r' ta tb tc) (dt K (.bool (a && b))) := fun σ H c g Q q =>
  h1 σ H c g _ fun u H1 e1 hu => h2 σ H1 (c.up e1) (g.up e1.toW) _ fun v H2 e2 hv => ho u v H2 (c.up (e1.trans e2)) (A.up e2.toW hu) hv _ fun z H3 e3 hz => by
    have e13 := e1.trans (e2.trans e3)
    cases hz
    refine ⟨a, rfl, ?_⟩
    cases a with
    | true =>
      rw [if_pos rfl]
      exact h3 rfl σ H3 (c.up e13) (g.up e13.toW) _ fun w H4 e4 hw => ho' v w H4 (c.up (e13.trans e4)) (C.up (e3.trans e4).toW hv) hw Q fun z H5 e5 hz => q z H5 (e13.trans (e4.trans e5)) (by rw [Bool.true_and]; exact hz)
    | false =>
      rw [if_neg Bool.false_ne_true]
      exact q _ H3 e13 (.bl _)
theorem opt_ix0 : OpT W (rIx K) (dt K (.tuple (d :: ds))) (dt K (.int 0)) (dt K d) := opt_ixT (i := 0) (atI_nat (j := 0) rfl)
theorem opt_ixTN {n : Nat} (e : ds[n]? = some d) : OpT W (rIx K) (dt K (.tuple ds)) (dt K (.int (n : Nat))) (dt K d) := opt_ixT (atI_nat e)
theorem opt_eqNil (h : ds.all isWholeD = true) : OpT W (rEqA K) (dt K (.tuple ds)) (dt K (.tuple [])) (dt K (.bool (decide (ds.length = 0)))) := by
  have z := opt_eqD (W := W) (K := K) (shaped_whole h) (show SeqAt.shaped (.tuple []) = true from rfl)
  rw [eqv_nil] at z
  exact z
theorem opt_eqT {a b : List (List Int)} : OpT W (rEqA K) (dt K (tabD a)) (dt K (tabD b)) (dt K (.bool (decide (a = b)))) := by
  have z := opt_eqD (W := W) (K := K) (shaped_tab a) (shaped_tab b)
  rw [eqv_tab] at z
  exact z
/-- what is empty is the empty list -/
theorem opt_eqL0 : OpT W (rEqA K) (dt K (.list [])) (dt K (.list [])) (dt K (.bool true)) := (opt_eqD (W := W) (K := K) (d := .list []) (e := .list []) rfl rfl)
end
end Ew

end
section
set_option Elab.async false
set_option linter.all false
set_option maxRecDepth 100000
set_option maxHeartbeats 1000000
/-! EwT: defs that hand back a new list; boxes; lists of unknowns. -/
namespace Ew
open PySem PySem.Spec PyProof.Rows L2
/-- a new list of values of the types Ts x -/
def spL {α : Type} (C : α → Prop) (A : α → List Typ) (Ts : α → List Typ) : Sp := fun vs H Q _ => ∃ (M B : Addr → Prop) (x : α), (∀ a, B a → M a) ∧ (∀ a, B a → BoxAt H a) ∧ (∀ a, M a → H a ≠ none) ∧ C x ∧ TysV M B (A x) vs H ∧
  ∀ p xs H', Ex B H H' → H p = none → H' p = some (.lst xs) → TysV M B (Ts x) xs H' → Q (.ref p) H'
def rL (W : Wd) (Ts : List Typ) : V → Hp → Prop := fun v H => ∃ p xs, v = .ref p ∧ Ex W.B W.H0 H ∧ W.H0 p = none ∧ H p = some (.lst xs) ∧ TysV W.M W.B Ts xs H
section
variable {W : Wd} {Γ : Gam} {tl : TA} {te : TE} {α : Type} {C : α → Prop} {A Ts : α → List Typ} {E : XK}
theorem tyl_call (x : α) (hC : C x) (h : TyA W Γ tl (A x)) : TyL W Γ (tCall (spL C A Ts) [] E tl) (Ts x) := fun σ H c g Q q =>
  h σ H c g _ fun vs H1 e1 hv => ⟨W.M, W.B, x, W.sub, (c.up e1).box, (c.up e1).al, hC, by rw [List.append_nil]; exact hv, fun p xs H2 e2 hp h2 h3 => q p xs H2 (e1.trans e2) (e1.free hp) h2 h3⟩
theorem tys_retL {Us : List Typ} {Bk Ct : Sx → Hp → Prop} (h : TyL W Γ te Us) : TyS W Γ (tRet te) noN (rL W Us) Bk Ct := fun σ H c g D _ dr _ _ => h σ H c g _ fun p xs H1 e hp h1 h2 => dr _ H1 ⟨p, xs, rfl, (c.up e).ex, c.ex.free hp, h1, h2⟩
variable {P : Program} {w : World} {K : PySem.W.Frag} {mg : Str → Option Value} {base : Heap}
theorem fn_tyL {x qual : Str} {st : Stmt} {f : Addr} {fd : FuncData} {N ps : List Str} {k : Nat} (F : Fun K x qual st f fd) (S : FnScope N ps (defScope st))
    (len : ∀ x, C x → (A x).length = ps.length)
    (hbody : ∀ (cdv : Value) (Ar : Around) (outer : List Env) (s : Shared) (H : Hp) (E : XK), Room k (Ar.deeper (envOfC qual (defScope st) s.heap.objs.size f cdv)) →
      ∃ t, PSs (cxOf (L2.CX P w) P w K mg base N qual (defScope st) f cdv Ar outer s H E).nox (defBody st) t ∧ ∀ (W : Wd) (x : α), C x → TyS W ((A x).map some ++ List.replicate (N.length - ps.length) none) t noN (rL W (Ts x)) noN noN) :
    FnOk P w K mg base (L2.CX P w) (k + 1) f fd ps (spL C A Ts) := by
  refine okN F S (fun vs H Q E h => ?_) fun cdv Ar outer s H vs Q E hr h => ?_
  · obtain ⟨M, B, x, _, _, _, hC, h, _⟩ := h
    rw [h.length, len x hC]
  · obtain ⟨M, B, x, hs, hb, ha, hC, h, q⟩ := h
    obtain ⟨t, ht, k⟩ := hbody cdv Ar outer s H E hr
    refine ⟨t, ht, k (Wd.base M B H hs) x hC (L2.start N vs) H ⟨hb, ha, Ex.refl B H, True.intro⟩ ?_ _ (fun σ' H' _ n => n.elim) (fun v H' n => ?_) (fun _ _ _ z => z.elim) (fun _ _ _ z => z.elim)⟩
    · unfold L2.start
      have e : vs.length = ps.length := by rw [h.length, len x hC]
      rw [e]
      exact env_start h _
    · obtain ⟨p, xs, rfl, h1, h2, h3, h4⟩ := n
      exact q p xs H' h1 h2 h3 h4
end
/-! ### a new box -/
/-- the box at p is one more -/
def Wd.bx (W : Wd) (p : Addr) : Wd := ⟨Ew.ad W.M p, fun a => W.B a ∨ a = p, W.H0, fun H => ∃ H1, W.Ω H1 ∧ H1 p = none ∧ Ex (fun a => W.B a ∨ a = p) H1 H, fun a h => h.imp (W.sub a) id, fun e ⟨H1, h1, h2, h3⟩ => ⟨H1, h1, h2, h3.trans e⟩⟩
theorem Ex.less {B : Addr → Prop} {p : Addr} {H H' : Hp} (e : Ex (fun a => B a ∨ a = p) H H') (h : H p = none) : Ex B H H' := fun a o q => (e a o q).imp id fun ⟨b, z⟩ => ⟨b.elim id fun w => absurd h (by rw [← w, q]; exact fun z => nomatch z), z⟩
theorem Ex.more {B : Addr → Prop} {p : Addr} {H H' : Hp} (e : Ex B H H') : Ex (fun a => B a ∨ a = p) H H' := e.sub fun _ h => .inl h
theorem Exm.thru {M B : Addr → Prop} {p : Addr} {H H1 H2 : Hp} (e : Exm M B H H1) (f : Exm (ad M p) (fun a => B a ∨ a = p) H1 H2) (hp : H p = none) : Exm M B H H2 := fun a o h => by
  have ne := ne_of_none h hp
  rcases e a o h with q | ⟨m, ⟨xs, rfl⟩, ⟨ys, q⟩, b⟩
  · rcases f a o q with r | ⟨m, x, y, b⟩
    · exact .inl r
    · exact .inr ⟨m.resolve_right ne, x, y, fun z z2 => b (.inl z) (by obtain ⟨xs, z3, z4⟩ := z2; rw [h] at z3; cases z3; exact ⟨xs, q, z4⟩)⟩
  · rcases f a _ q with r | ⟨_, _, y, b'⟩
    · exact .inr ⟨m, ⟨xs, rfl⟩, ⟨ys, r⟩, fun z1 z2 => by
        obtain ⟨zs, z3, z4⟩ := b z1 z2
        rw [q] at z3; cases z3
        exact ⟨ys, r, z4⟩⟩
    · exact .inr ⟨m, ⟨xs, rfl⟩, y, fun z1 z2 => b' (.inl z1) (b z1 z2)⟩
section
variable {W : Wd} {Γ Γ' : Gam} {te : TE} {tw : TS} {i : Nat} {Ts : List Typ} {T : Typ} {Bk Ct : Sx → Hp → Prop}
/-- box = .., then the rest in the wider world; behind it the slots of Γ' -/
theorem tys_box (h : TyL W Γ te Ts) (hx : ∀ xs H, TysV W.M W.B Ts xs H → BxL xs)
    (hΓ : ∀ p σ H0 H, Exm W.M W.B H0 H → H0 p = none → EnvL W.M W.B Γ σ H0 → EnvL (ad W.M p) (fun a => W.B a ∨ a = p) Γ σ H)
    (hb : ∀ p, ¬ W.M p → TyS (W.bx p) (Γ.set i (some bx)) tw (nE (W.bx p) Γ') (rW (W.bx p) T) noN noN)
    (hn : ∀ p σ H, EnvL (ad W.M p) (fun a => W.B a ∨ a = p) Γ' σ H → EnvL W.M W.B Γ' σ H) (hT : ∀ p v H, T.p (ad W.M p) (fun a => W.B a ∨ a = p) v H → T.p W.M W.B v H) :
    TyS W Γ (tSeq (tAsg te (gName i)) tw) (nE W Γ') (rW W T) Bk Ct := fun σ H c g D dn dr db dc =>
  h σ H c g _ fun p xs H1 e hp h1 h2 => by
    have n0 : W.H0 p = none := c.ex.free hp
    have nm : ¬ W.M p := c.nm hp
    have bx1 : BoxAt H1 p := ⟨xs, h1, hx xs H1 h2⟩
    have c1 := c.up e
    have c2 : Cxt (W.bx p) H1 := ⟨fun a z => z.elim (c1.box a) (fun w => by rw [w]; exact bx1), fun a z => z.elim (c1.al a) (fun w => by rw [w, h1]; intro q; cases q), c1.ex.more, H, c.own, hp, e.more⟩
    have g1 : EnvL (ad W.M p) (fun a => W.B a ∨ a = p) Γ σ H1 := hΓ p σ H H1 e.toW hp g
    have g2 : EnvL (ad W.M p) (fun a => W.B a ∨ a = p) (Γ.set i (some bx)) (σ.set i (some (.ref p))) H1 := EnvL.set (T := bx) ⟨p, rfl, .inr rfl, bx1⟩ g1
    refine hb p nm _ H1 c2 g2 D (fun σ' H' f n => dn σ' H' (e.toW.thru f hp) ⟨?_, hn p σ' H' n.2⟩) (fun v H' n => dr v H' ⟨n.1.less n0, hT p v H' n.2⟩) (fun _ _ _ z => z.elim) (fun _ _ _ z => z.elim)
    refine ⟨fun a z => n.1.box a (.inl z), fun a z => n.1.al a (.inl z), n.1.ex.less n0, ?_⟩
    obtain ⟨H2, o1, o2, o3⟩ := n.1.own
    exact W.kept (o3.less o2) o1
/-! ### values of which just something is known -/
theorem exT_list {α : Type} {A : α → Typ} {M B : Addr → Prop} {H : Hp} : ∀ {n : Nat} {xs : List V}, TysV M B (List.replicate n (exT A)) xs H → ∃ l : List α, l.length = n ∧ TysV M B (l.map A) xs H
  | 0, [], _ => ⟨[], rfl, True.intro⟩
  | n + 1, x :: xs, h => by
    obtain ⟨⟨y, hy⟩, h2⟩ := h
    obtain ⟨l, e, k⟩ := exT_list (n := n) h2
    exact ⟨y :: l, by rw [List.length_cons, e], hy, k⟩
  | 0, _ :: _, h => h.elim
  | n + 1, [], h => h.elim
theorem gd_list {α : Type} {A : α → Typ} {φ : α → Prop} {M B : Addr → Prop} {H : Hp} : ∀ {l : List α} {xs : List V}, TysV M B (l.map fun x => gd (φ x) (A x)) xs H → (∀ x ∈ l, φ x) ∧ TysV M B (l.map A) xs H
  | [], [], _ => ⟨(fun _ z => by cases z), True.intro⟩
  | y :: l, x :: xs, h => by
    obtain ⟨⟨h1, h2⟩, h3⟩ := h
    obtain ⟨k1, k2⟩ := gd_list (l := l) h3
    refine ⟨fun z hz => ?_, h2, k2⟩
    rcases List.mem_cons.mp hz with rfl | hz
    · exact h1
    · exact k1 z hz
  | [], _ :: _, h => h.elim
  | _ :: _, [], h => h.elim
/-- [.. for ..]: n values of one kind -/
theorem TyL.exs {α : Type} {A : α → Typ} {φ : α → Prop} {n : Nat} {K : PySem.W.Frag} (h : TyL W Γ te (List.replicate n (exT fun x : α => gd (φ x) (A x)))) :
    Ty W Γ (tCB (rTupOf K) (tCons te tNil)) (exT fun l : List α => gd (l.length = n ∧ ∀ x ∈ l, φ x) (tupT K (l.map A))) := (ty_tupOf (K := K) h).sub fun v H _ z => by
  obtain ⟨a, xs, h1, h2, h3⟩ := z
  obtain ⟨l, e, k⟩ := exT_list h3
  obtain ⟨k1, k2⟩ := gd_list k
  exact ⟨l, ⟨e, k1⟩, a, xs, h1, h2, k2⟩
theorem Ty.exs {α β : Type} {A : α → Typ} {C : β → Typ} (h : Ty W Γ te (exT A)) (k : ∀ x v H, (A x).at W v H → ∃ y, (C y).at W v H) : Ty W Γ te (exT C) := h.sub fun v H _ ⟨x, z⟩ => k x v H z
theorem Ty.ex {α : Type} {A : α → Typ} (x : α) (h : Ty W Γ te (A x)) : Ty W Γ te (exT A) := h.sub fun v H _ z => ⟨x, z⟩
/-- an operator on an unknown -/
theorem ty_opX {α β : Type} {A : α → Typ} {C : Typ} {P : β → Typ} {r : R2} {ta tb : TE} (ha : Ty W Γ ta (exT A)) (hb : Ty W Γ tb C) (ho : ∀ x, ∃ y, OpT W r (A x) C (P y)) : Ty W Γ (tOp r ta tb) (exT P) := ty_op ha hb fun u v H c ⟨x, hu⟩ hv Q q => by
  obtain ⟨y, k⟩ := ho x
  exact k u v H c hu hv Q fun w H1 e z => q w H1 e ⟨y, z⟩
theorem ty_opY {α β : Type} {A : Typ} {C : α → Typ} {P : β → Typ} {r : R2} {ta tb : TE} (ha : Ty W Γ ta A) (hb : Ty W Γ tb (exT C)) (ho : ∀ x, ∃ y, OpT W r A (C x) (P y)) : Ty W Γ (tOp r ta tb) (exT P) := ty_op ha hb fun u v H c hu ⟨x, hv⟩ Q q => by
  obtain ⟨y, k⟩ := ho x
  exact k u v H c hu hv Q fun w H1 e z => q w H1 e ⟨y, z⟩
end
theorem OpT.gdl {W : Wd} {r : R2} {φ : Prop} {A C P : Typ} (h : φ → OpT W r A C P) : OpT W r (gd φ A) C P := fun u v H c ⟨f, hu⟩ hv Q q => h f u v H c hu hv Q q
theorem OpT.gdr {W : Wd} {r : R2} {φ : Prop} {A C P : Typ} (h : φ → OpT W r A C P) : OpT W r A (gd φ C) P := fun u v H c hu ⟨f, hv⟩ Q q => h f u v H c hu hv Q q
/-- a number below n, of which no more is known -/
def digT (K : PySem.W.Frag) (n : Nat) : Typ := exT fun k : Nat => gd (k < n) (dt K (.int (k : Nat)))
/-- one of these -/
def anyT (Ts : List Typ) : Typ := exT fun n : Nat => gd (n < Ts.length) (Ts.getD n (isV .non))
theorem ty_pick {W : Wd} {Γ : Gam} {K : PySem.W.Frag} {ta tb : TE} {Ts : List Typ} {n : Nat} (ha : Ty W Γ ta (lstT Ts)) (hb : Ty W Γ tb (digT K n)) (hn : n ≤ Ts.length) : Ty W Γ (tOp (rIx K) ta tb) (anyT Ts) := ty_opY ha hb fun k => by
  refine ⟨k, OpT.gdr fun f => ?_⟩
  have hk : k < Ts.length := by omega
  have e : Ts[k]? = some (Ts.getD k (isV .non)) := by rw [List.getD_eq_getElem?_getD, List.getElem?_eq_getElem hk]; rfl
  exact fun u v H c hu hv Q q => opt_ixLT e u v H c hu hv Q fun w H1 e1 z => q w H1 e1 ⟨hk, z⟩
end Ew

end
section
set_option Elab.async false
set_option linter.all false
set_option maxRecDepth 100000
set_option maxHeartbeats 1000000
/-! EwS: readings whose value is known, at a heap that is known. -/
namespace Ew
open PySem PySem.Spec PyProof.Rows L2
/-- te yields v and leaves the heap -/
def Ev (te : TE) (σ : Sx) (H : Hp) (v : V) : Prop := ∀ Q : VK, Q v H → te σ H Q
def EvA (tl : TA) (σ : Sx) (H : Hp) (vs : List V) : Prop := ∀ Q : List V → Hp → Prop, Q vs H → tl σ H Q
section
variable {σ : Sx} {H : Hp} {K : PySem.W.Frag} {te ta tb : TE} {tl : TA} {u v w : V} {vs : List V} {i j : Int} {n : Nat} {p : Addr} {xs : List V} {a b : Bool}
theorem ev_var (h : σ[n]? = some (some v)) : Ev (tVar n) σ H v := fun Q q => ⟨v, h, q⟩
theorem ev_c : Ev (tC v) σ H v := fun Q q => q
theorem ev_op {r : R2} (ha : Ev ta σ H u) (hb : Ev tb σ H v) (hr : ∀ Q : VK, Q w H → r u v H Q) : Ev (tOp r ta tb) σ H w := fun Q q => ha _ (hb _ (hr Q q))
theorem ev_I0 {g : Int → Int → V} (ha : Ev ta σ H (.int i)) (hb : Ev tb σ H (.int j)) : Ev (tOp (rI0 g) ta tb) σ H (g i j) := ev_op ha hb fun Q q => ⟨i, j, rfl, rfl, q⟩
theorem ev_I {D : Int → Int → Prop} {g : Int → Int → V} (hd : D i j) (ha : Ev ta σ H (.int i)) (hb : Ev tb σ H (.int j)) : Ev (tOp (rI D g) ta tb) σ H (g i j) := ev_op ha hb fun Q q => ⟨i, j, rfl, rfl, hd, q⟩
theorem ev_add (ha : Ev ta σ H (.int i)) (hb : Ev tb σ H (.int j)) : Ev (tOp (rAddA K) ta tb) σ H (.int (i + j)) := ev_op ha hb fun Q q => .inl ⟨i, j, rfl, rfl, q⟩
theorem ev_mul (hd : CMul i j) (ha : Ev ta σ H (.int i)) (hb : Ev tb σ H (.int j)) : Ev (tOp rMulA ta tb) σ H (.int (i * j)) := ev_op ha hb fun Q q => .inl ⟨i, j, rfl, rfl, hd, q⟩
theorem ev_div (hd : CDivW i j) (ha : Ev ta σ H (.int i)) (hb : Ev tb σ H (.int j)) : Ev (tOp rDivA ta tb) σ H (.int (i / j)) := ev_op ha hb fun Q q => .inl ⟨i, j, rfl, rfl, hd, q⟩
theorem ev_ix (hH : H p = some (.lst xs)) (e : atI xs i = some w) (ha : Ev ta σ H (.ref p)) (hb : Ev tb σ H (.int i)) : Ev (tOp (rIx K) ta tb) σ H w := ev_op ha hb fun Q q => .inl ⟨p, xs, i, w, rfl, rfl, SqL.of hH, e, q⟩
theorem eva_nil : EvA tNil σ H [] := fun Q q => q
theorem eva_cons (ha : Ev te σ H v) (hr : EvA tl σ H vs) : EvA (tCons te tl) σ H (v :: vs) := fun Q q => ha _ (hr _ q)
theorem ev_int (h : Ev te σ H (.int i)) : Ev (tCB rInt (tCons te tNil)) σ H (.int i) := fun Q q => h _ (.inl ⟨i, rfl, q⟩)
theorem Ev.tt {Q : Bool → Hp → Prop} (h : Ev te σ H (.bl a)) (q : Q a H) : tTest te σ H Q := h _ ⟨a, rfl, q⟩
theorem Ev.tbl {Q : Bool → Hp → Prop} (h : Ev te σ H (.bl a)) (q : Q a H) : tB te σ H Q := h _ ⟨a, rfl, q⟩
/-- x[j] = e, x a list -/
theorem ev_put {D : Ends} {tj : TE} {k : Nat} (he : Ev te σ H v) (hx : Ev ta σ H (.ref p)) (hj : Ev tj σ H (.int i)) (hH : H p = some (.lst xs)) (hk : ixN xs.length i = some k) (q : D.nx σ (upd H p (.lst (xs.set k v)))) : tAsg te (gSub ta tj rSetL) D σ H :=
  he _ (hx _ (hj _ ⟨p, xs, i, k, rfl, rfl, hH, hk, q⟩))
end
end Ew

end
section
set_option Elab.async false
set_option linter.all false
set_option maxRecDepth 100000
set_option maxHeartbeats 2000000
/-! EwQ: enumerate of a tuple (turned from the worked proofs for a list). -/
namespace PySem
open Sem (wp)
open AutoSeq1 (wpAny_loadPart')
theorem meets_enumerate_newT (l : Addr) (items : Array Value) (n : Nat) (dct : Option Addr) (sl : Array (Option Value)) :
    Meets (Builtin.«enumerate.__new__» ⟨[.type "enumerate", .ref l], []⟩) (fun _ R s => s.heap.get? l = some { cls := .type "tuple", dict := dct, data := .seq items n, slots := sl } ∧
      R (.ok (.ret (.ref (s.heap.push { cls := .type "tuple_iterator", data := .fields #[.ref l, .int 0 0] }).objs.size)))
        { s with heap := (s.heap.push { cls := .type "tuple_iterator", data := .fields #[.ref l, .int 0 0] }).push { cls := .type "enumerate", data := .fields #[.none, .bool false, .ref s.heap.objs.size, rawInt 0, .none, .none] } }) :=
  .of_wp fun prog w A R s h => by
    obtain ⟨hp, g, d, tk, os⟩ := s; obtain ⟨hl, h⟩ := h
    have hsub := sub_enumerate
    have hL : Heap.IsTuple (Shared.heap ⟨hp, g, d, tk, os⟩) l items := ⟨_, hl, rfl, n, rfl⟩
    wp_walk using wpAny_loadPart' hl
    refine wpAny_stack_any fun st => wpAny_pure ?_
    split
    · rename_i c _ _ _ _ _
      cases (c == Value.type "enumerate")
      · wp_walk using wpAny_loadPart' hl, wpAny_pyIter_tuple hL
        exact ⟨_, rfl, h⟩
      · wp_walk using wpAny_loadPart' hl, wpAny_pyIter_tuple hL
        exact ⟨_, rfl, h⟩
    · wp_walk using wpAny_loadPart' hl, wpAny_pyIter_tuple hL
      exact ⟨_, rfl, h⟩

section
variable {prog : Program} {w : World} {A : Around} {E : Value → Shared → Prop} {s : Shared}
theorem enumerate_next_itemT {e it l : Addr} {i : Nat} {items : Array Value} {x old : Value} {Q : Value → Shared → Prop}
    (he : IsEnum s.heap e it i old) (hit : s.heap.IsTupleIter it l i) (hl : s.heap.IsTuple l items) (hx : items[i]? = some x) (hne : e ≠ it)
    (hQ : ∀ h', IsEnumOut h' e it ((i : Int) + 1) x s.heap.objs.size → h'.IsTupleIter it l (i + 1) →
      h'.get? s.heap.objs.size = some { cls := .type "tuple", data := .seq #[.int i s.toks, x] } → h'.objs.size = s.heap.objs.size + 1 →
      (∀ b o, b ≠ e → b ≠ it → s.heap.get? b = some o → h'.get? b = some o) → Q (.ref s.heap.objs.size) { s with heap := h', toks := s.toks + 1 }) :
    wpAny (model prog w) A (Builtin.«enumerate.__next__» ⟨[.ref e], []⟩) (fun fin s' => ∃ v, fin = .done (.ret v) ∧ Q v s') E s := by
  obtain ⟨hp, g, d, tk, os⟩ := s
  show wpAny _ _ (field (.ref e) 2 >>= _) _ _ _
  refine wpAny_bind (wpAny_field he rfl (x := .ref it) rfl ?_)
  refine wpAny_bind (RZ.nextOf_tuple_item hit hl hx fun h₁ hit₁ hs₁ => ?_)
  replace hs₁ : Heap.SameBut it hp h₁ := hs₁
  have he₁ : IsEnum h₁ e it i old := (hs₁.2 e hne).trans he
  show wpAny _ _ (field (.ref e) 3 >>= _) _ _ ⟨h₁, g, d, tk, os⟩
  refine wpAny_bind (wpAny_field he₁ rfl (x := rawInt i) rfl ?_)
  show wpAny _ _ (field (.ref e) 4 >>= _) _ _ ⟨h₁, g, d, tk, os⟩
  refine wpAny_bind (wpAny_field he₁ rfl (x := .none) rfl ?_)
  show wpAny _ _ (mkInt i >>= _) _ _ ⟨h₁, g, d, tk, os⟩
  refine wpAny_bind (wpAny_mkInt ?_)
  show wpAny _ _ (setField (.ref e) 3 (rawInt ((i : Int) + 1)) >>= _) _ _ ⟨h₁, g, d, tk + 1, os⟩
  refine wpAny_bind (wpAny_setField_rec he₁ (by simp) fun h₂ he₂ hs₂ => ?_)
  replace hs₂ : Heap.SameBut e h₁ h₂ := hs₂
  replace he₂ : IsEnum h₂ e it ((i : Int) + 1) old := he₂
  show wpAny _ _ (setField (.ref e) 4 .none >>= _) _ _ ⟨h₂, g, d, tk + 1, os⟩
  refine wpAny_bind (wpAny_setField_rec he₂ (by simp) fun h₃ he₃ hs₃ => ?_)
  replace hs₃ : Heap.SameBut e h₂ h₃ := hs₃
  replace he₃ : IsEnum h₃ e it ((i : Int) + 1) old := he₃
  show wpAny _ _ (newTuple [.int i tk, x] >>= _) _ _ ⟨h₃, g, d, tk + 1, os⟩
  refine wpAny_bind (wpAny_newTuple ?_)
  have he₄ : IsEnum (h₃.push { cls := .type "tuple", data := .seq #[.int i tk, x] }) e it ((i : Int) + 1) old := Heap.get?_push_of_some _ he₃
  generalize hh₄ : h₃.push { cls := .type "tuple", data := .seq #[.int i tk, x] } = h₄ at he₄
  have hsz : h₃.objs.size = hp.objs.size := by rw [hs₃.1, hs₂.1, hs₁.1]
  have hel : e < hp.objs.size := Heap.lt_size he
  have ht₄ : h₄.get? hp.objs.size = some { cls := .type "tuple", data := .seq #[.int i tk, x] } := by rw [← hh₄, ← hsz]; exact Heap.get?_push_size _ rfl
  have hz₄ : h₄.objs.size = hp.objs.size + 1 := by rw [← hh₄, Heap.size_push, hsz]
  have hk₄ : ∀ b o, b ≠ e → b ≠ it → hp.get? b = some o → h₄.get? b = some o := fun b o hbe hbi hb => by
    rw [← hh₄]; exact Heap.get?_push_of_some _ (hs₃.extBut b o hbe (hs₂.extBut b o hbe (hs₁.extBut b o hbi hb)))
  have hit₄ : h₄.IsTupleIter it l (i + 1) := by
    rw [← hh₄]; obtain ⟨o, ho, r⟩ := (hit₁.extBut hs₂.extBut (Ne.symm hne)).extBut hs₃.extBut (Ne.symm hne); exact ⟨o, Heap.get?_push_of_some _ ho, r⟩
  show wpAny _ _ (Builtin.SmallTypes.ownedTupleIsFree (.ref e) >>= _) _ _ ⟨h₄, g, d, tk + 1, os⟩
  rw [hsz]
  clear hh₄ he₃ hs₃ he₂ hs₂ he₁ hs₁ hit₁ hsz h₃ h₂ h₁
  refine wpAny_bind ?_
  · unfold Builtin.SmallTypes.ownedTupleIsFree
    refine wpAny_bind (wpAny_field he₄ rfl (x := .none) rfl (wpAny_pure ?_))
    simp only [if_true]
    refine wpAny_bind (wpAny_rule ?_)
    refine wpAny_bind (wpAny_field he₄ rfl (x := old) rfl ?_)
    refine wpAny_bind (wpAny_setField_rec he₄ (by simp) fun h₅ he₅ hs₅ => ?_)
    replace hs₅ : Heap.SameBut e h₄ h₅ := hs₅
    replace he₅ : IsEnum h₅ e it ((i : Int) + 1) x := he₅
    show wpAny _ _ (Builtin.SmallTypes.ownedTupleHandOut (.ref e) (.ref hp.objs.size) >>= _) _ _ ⟨h₅, g, d, tk + 1, os⟩
    refine wpAny_bind ?_
    · unfold Builtin.SmallTypes.ownedTupleHandOut
      refine wpAny_bind (wpAny_setField_rec he₅ (by simp) fun h₆ he₆ hs₆ => ?_)
      replace hs₆ : Heap.SameBut e h₅ h₆ := hs₆
      replace he₆ : IsEnumOut h₆ e it ((i : Int) + 1) x hp.objs.size := he₆
      refine wpAny_setField_rec he₆ (by simp) fun h₇ he₇ hs₇ => ?_
      replace hs₇ : Heap.SameBut e h₆ h₇ := hs₇
      replace he₇ : IsEnumOut h₇ e it ((i : Int) + 1) x hp.objs.size := he₇
      refine wpAny_bind (wpAny_letGo (wpAny_pure ⟨_, rfl, hQ h₇ he₇ ?_ ?_ ?_ ?_⟩))
      · exact ((hit₄.extBut hs₅.extBut (Ne.symm hne)).extBut hs₆.extBut (Ne.symm hne)).extBut hs₇.extBut (Ne.symm hne)
      · exact hs₇.extBut _ _ (Nat.ne_of_gt hel) (hs₆.extBut _ _ (Nat.ne_of_gt hel) (hs₅.extBut _ _ (Nat.ne_of_gt hel) ht₄))
      · rw [hs₇.1, hs₆.1, hs₅.1, hz₄]
      · exact fun b o hbe hbi hb => hs₇.extBut b o hbe (hs₆.extBut b o hbe (hs₅.extBut b o hbe (hk₄ b o hbe hbi hb)))

theorem wpAny_pyNext_enum_itemT {e it l : Addr} {i : Nat} {items : Array Value} {x old : Value} {Q : Option Value → Shared → Prop}
    (he : IsEnum s.heap e it i old) (hit : s.heap.IsTupleIter it l i) (hl : s.heap.IsTuple l items) (hx : items[i]? = some x) (hne : e ≠ it)
    (hQ : ∀ h', IsEnumOut h' e it ((i : Int) + 1) x s.heap.objs.size → h'.IsTupleIter it l (i + 1) →
      h'.get? s.heap.objs.size = some { cls := .type "tuple", data := .seq #[.int i s.toks, x] } → h'.objs.size = s.heap.objs.size + 1 →
      (∀ b o, b ≠ e → b ≠ it → s.heap.get? b = some o → h'.get? b = some o) → Q (some (.ref s.heap.objs.size)) { s with heap := h', toks := s.toks + 1 }) :
    wpAny (model prog w) A (pyNext (.ref e)) Q E s := by
  have hT : s.TypeIs (.ref e) "enumerate" := ⟨_, he, rfl⟩
  unfold pyNext
  exact wpAny_bind (wpAny_attempt (wpAny_callSpecial?_slot (name := Str.ofString "__next__") hT F.slot_enumerate_next
    (wpAny_call_entry F.slot_enumerate_next hT F.entry_enumerate_next
      (enumerate_next_itemT he hit hl hx hne fun h' a b c d k => wpAny_pure (hQ h' a b c d k)) (F.args_enumerate_next_1 _))))

theorem wpAny_pyNext_enum_endT {e it l : Addr} {i : Nat} {items : Array Value} {old : Value} {Q : Option Value → Shared → Prop} (hh : A.handled = none)
    (he : IsEnum s.heap e it i old) (hit : s.heap.IsTupleIter it l i) (hl : s.heap.IsTuple l items) (hx : items[i]? = none)
    (hQ : ∀ h', Heap.ExtBut it s.heap h' → Q none { s with heap := h' }) : wpAny (model prog w) A (pyNext (.ref e)) Q E s := by
  have hT : s.TypeIs (.ref e) "enumerate" := ⟨_, he, rfl⟩
  unfold pyNext
  refine wpAny_bind (wpAny_attempt (wpAny_callSpecial?_slot (name := Str.ofString "__next__") hT F.slot_enumerate_next
    (wpAny_call_entry F.slot_enumerate_next hT F.entry_enumerate_next ?_ (F.args_enumerate_next_1 _))))
  show wpAny _ _ (field (.ref e) 2 >>= _) _ _ _
  refine wpAny_bind (wpAny_field he rfl (x := .ref it) rfl ?_)
  refine wpAny_bind (RZ.nextOf_tuple_end hh hit hl hx fun h' x he' hx' => ?_)
  obtain ⟨o, ho, hc⟩ := hx'
  refine wpAny_bind (wpAny_isInstance (T := "StopIteration") (b := true) ⟨o, ho, hc⟩ isSubtype_stop ?_)
  exact wpAny_pure (hQ _ he')
theorem call_enumerate_tuple {l : Addr} {items : Array Value} {Q : Value → Shared → Prop} (hL : s.heap.IsTuple l items)
    (h : ∀ h', IsEnum h' (s.heap.objs.size + 1) s.heap.objs.size 0 .none → h'.IsTupleIter s.heap.objs.size l 0 → h'.objs.size = s.heap.objs.size + 2 →
      (∀ b o, s.heap.get? b = some o → h'.get? b = some o) → Q (.ref (s.heap.objs.size + 1)) { s with heap := h' }) :
    wpAny (model prog w) A (call (.type "enumerate") [.ref l]) Q E s := by
  obtain ⟨⟨c, dct, dt, sl⟩, hl, hc, n, hd⟩ := hL
  replace hc : c = .type "tuple" := hc
  replace hd : dt = .seq items n := hd
  subst hc hd
  refine callType_new F.called_enumerate (by decide) (F.typeCall_enumerate_1 _) (F.newCall_enumerate_1 _) (fun obj => F.args_object_init_2 obj _) F.entry_enumerate_new
    (meets_enumerate_newT l items n dct sl) ⟨hl, ?_⟩
  have hz : (s.heap.push { cls := .type "tuple_iterator", data := .fields #[.ref l, .int 0 0] }).objs.size = s.heap.objs.size + 1 := Heap.size_push ..
  show _ ∧ _
  rw [hz]
  have he : IsEnum ((s.heap.push { cls := .type "tuple_iterator", data := .fields #[.ref l, .int 0 0] }).push
      { cls := .type "enumerate", data := .fields #[.none, .bool false, .ref s.heap.objs.size, rawInt 0, .none, .none] }) (s.heap.objs.size + 1) s.heap.objs.size 0 .none := by
    have := Heap.get?_push_size (s.heap.push { cls := .type "tuple_iterator", data := .fields #[.ref l, .int 0 0] })
      (o := { cls := .type "enumerate", data := .fields #[.none, .bool false, .ref s.heap.objs.size, rawInt 0, .none, .none] }) rfl
    rw [hz] at this; exact this
  refine ⟨⟨_, he, rfl⟩, h _ he ⟨_, Heap.get?_push_of_some _ (Heap.get?_push_size _ rfl), rfl, rfl⟩ (by rw [Heap.size_push, hz]) fun b o x => Heap.get?_push_of_some _ (Heap.get?_push_of_some _ x)⟩

end
end PySem
namespace L2
open PySem PySem.Spec PyProof.Rows
/-- the tuple at a as it stands at each turn, each item in a new pair -/
def IteT (K : PySem.W.Frag) (a : Addr) : It :=
  ⟨fun i H => ∃ (xs : List V) (x : V), SqT K H a xs ∧ xs[i]? = some x, fun i H v H' => ∃ T x, v = .ref T ∧ H T = none ∧ H' = upd H T (.tup [.int (i : Nat), x]) ∧ ∀ xs, SqT K H a xs → xs[i]? = some x, fun i H => ∃ xs : List V, SqT K H a xs ∧ xs.length ≤ i⟩
theorem turn_enumT {P : Program} {w : World} {K : PySem.W.Frag} {elts : List Expr} {kk : Nat} {tpos : Pos} (a e it : Addr) :
    Turn P w K (.Tuple elts kk tpos) (IteT K a) [e, it] e (fun i h => (∃ old, IsEnum h e it ((i : Nat) : Int) old) ∧ h.IsTupleIter it a i ∧ e ≠ it) where
  mem := by simp
  obj := fun i h st b hb => by
    obtain ⟨⟨old, he⟩, ⟨o, ho, hc, hd⟩, _⟩ := st
    have e' : b = e ∨ b = it := by simpa using hb
    rcases e' with z | z
    · rw [z]; exact ⟨_, he, fun v q => nomatch q⟩
    · rw [z]; exact ⟨o, ho, fun v q => by rw [hd] at q; cases q⟩
  keep := fun i h h' st k => let ⟨⟨old, he⟩, hi, hne⟩ := st; ⟨⟨old, k e (by simp) _ he⟩, hi.at fun o q => k it (by simp) o q, hne⟩
  item := by
    intro X hP hw hK hc i pins s σ H E I hf st hg
    subst hP hw hK
    obtain ⟨⟨old, he⟩, hit, hne⟩ := st
    obtain ⟨xs, x, hq, hx⟩ := hg
    obtain ⟨its, rv, p, hz⟩ := I.tuple hq
    obtain ⟨u, hu, ru⟩ := rv.get hx
    have hel : e < s.heap.objs.size := Heap.lt_size he
    have hil : it < s.heap.objs.size := by obtain ⟨_, q, _⟩ := hit; exact Heap.lt_size q
    refine wpAny_pyNext_enum_itemT he hit p (x := u) (by simpa using hu) hne fun h' ho hit' hT hsz hk => ?_
    refine ⟨_, rfl, wpAny_letOwnedTupleGo_enum (s := { s with heap := h', toks := s.toks + 1 }) ho fun h'' he' sb => ?_⟩
    have hT2 : h''.get? s.heap.objs.size = some { cls := .type "tuple", data := .seq #[.int i s.toks, u] } := (sb.2 _ (Nat.ne_of_gt hel)).trans hT
    have new : ObjOk X.prog X.w (upd H s.heap.objs.size (.tup [.int (i : Nat), x])) h'' s.heap.objs.size (.tup [.int (i : Nat), x]) :=
      ⟨by show 2 ≤ sizeLine; decide, [.int i s.toks, u], .cons ⟨_, rfl⟩ (.cons ru .nil), ⟨_, hT2, rfl, _, rfl⟩⟩
    have I1 : Inv X pins σ (upd H s.heap.objs.size (.tup [.int (i : Nat), x])) { s with heap := h'', toks := s.toks + 1 } :=
      I.turnedNew (ch := [e, it]) (fun b ob hb q => (sb.2 b (fun z => hb (by simp [z]))).trans (hk b ob (fun z => hb (by simp [z])) (fun z => hb (by simp [z])) q)) hf (Nat.le_refl _) new
    refine ⟨.ref s.heap.objs.size, _, I1, rfl, ⟨_, x, rfl, I.hok.fresh (Nat.le_refl _), rfl, fun ys hy => by rw [I.tuple_inj hy hq]; exact hx⟩, ⟨⟨u, ?_⟩, hit'.at fun o q => (sb.2 it (Ne.symm hne)).trans q, hne⟩, fun b hb => ?_⟩
    · have e1 : ((i + 1 : Nat) : Int) = (i : Int) + 1 := by omega
      rw [e1]; exact he'
    · have hb' : b < s.heap.objs.size := by
        have e' : b = e ∨ b = it := by simpa using hb
        rcases e' with z | z
        · rw [z]; exact hel
        · rw [z]; exact hil
      rw [upd_ne (Nat.ne_of_lt hb')]
      exact (hf b hb).1
  done := by
    intro X hP hw hK hc i pins s σ H E I hf st hg
    subst hP hw hK
    obtain ⟨⟨old, he⟩, hit, hne⟩ := st
    obtain ⟨xs, hq, hx⟩ := hg
    obtain ⟨its, rv, p, hz⟩ := I.tuple hq
    obtain ⟨f0, f1, f2, f3, f4, f5⟩ := hf it (by simp)
    have hl := rv.length
    exact wpAny_pyNext_enum_endT (I.ok.hd hc) he hit p (by simp; omega) fun h' eb => ⟨rfl, I.turned (t' := s.toks) (fun b o hb q => eb b o hb q) f0 f1 f3 f4 f5⟩
  self := fun A i s Q E st h => let ⟨⟨_, he⟩, _⟩ := st; wpAny_pyIter_enum he h
def iEnumT (K : PySem.W.Frag) (ta : TA) : TI := fun σ H R => ta σ H fun vs H1 => ∃ a xs, vs = [.ref a] ∧ SqT K H1 a xs ∧ R (IteT K a) H1
theorem pi_enumT {X : Cx} {e : Expr} {ta : TA} {p pos tpos : Pos} {elts : List Expr} {kk : Nat} (hg : Gl X "enumerate") (hm : X.mg "enumerate" = none) (ha : PA X [e] ta) (hs : starEach [e] X.env = [(false, eval e X.env)] := by rfl) :
    PI X (.Tuple elts kk tpos) (.Call (.Name "enumerate" p) [e] [] pos) (iEnumT X.K ta) := by
  refine ⟨fun pins s σ H R I h => ?_⟩
  refine Call_ (ld_blt I hg hm boot_enumerate (PyProof.Rows.callWith_type1 (thn (ha.run pos pins s σ H _ I h) fun us s1 ⟨vs, H1, I1, r1, q1⟩ => ?_) hs rfl))
  obtain ⟨a, xs, ex, hq, q⟩ := q1
  subst ex
  cases r1 with
  | cons r rr =>
    cases rr
    cases r
    obtain ⟨its, rv, p', hz⟩ := I1.tuple hq
    refine call_enumerate_tuple p' fun h' he hit hsz hk => wpAny_pyIter_enum he ?_
    have I2 : Inv X pins σ H1 { s1 with heap := h' } := I1.kept (t' := s1.toks) hk
    refine ⟨s1.heap.objs.size + 1, [s1.heap.objs.size + 1, s1.heap.objs.size], _, _, H1, rfl, I2, turn_enumT a (s1.heap.objs.size + 1) s1.heap.objs.size, ⟨⟨.none, he⟩, hit, Nat.succ_ne_self _⟩, fun b hb => ?_, q⟩
    have e' : b = s1.heap.objs.size + 1 ∨ b = s1.heap.objs.size := by simpa using hb
    have hle : s1.heap.objs.size ≤ b := by
      rcases e' with z | z
      · rw [z]; exact Nat.le_add_right _ _
      · rw [z]; exact Nat.le_refl _
    exact I1.fpOk hle (I1.hok.fresh hle)
end L2

end
section
set_option Elab.async false
set_option linter.all false
set_option maxRecDepth 100000
set_option maxHeartbeats 2000000
/-! EwR: slices, tuple times one, enumerate of tuples, several names at once. -/
namespace L2
open PySem PySem.Spec PyProof.Rows
theorem tuple_mulOne (l : Addr) (items : Array Value) (n : Nat) (u : Tok) :
    Meets (Builtin.«tuple.__mul__» ⟨[.ref l, .int 1 u], []⟩) (fun _ R s => (∃ dd sl, s.heap.get? l = some { cls := .type "tuple", dict := dd, data := .seq items n, slots := sl }) ∧ R (.ok (.ret (.ref l))) s) :=
  .of_wp fun prog w A R s h => by
    obtain ⟨hp, g, d, tk, os⟩ := s
    obtain ⟨⟨dd, sl, hl⟩, h⟩ := h
    have f1 := AutoSeq1.idx_int
    have c0 : (decide ((1 : Int) < -(2 ^ 63)) || decide ((1 : Int) ≥ 2 ^ 63)) = false := by decide
    have c1 : (items.isEmpty || (1 : Int) == 1) = true := by rw [Bool.or_eq_true]; exact .inr rfl
    wp_walk using wpAny_loadPart' hl
    repeat (first
      | (refine wpAny_ite_false (decide_eq_false (by rw [c0]; exact Bool.false_ne_true)) ?_; wp_walk using wpAny_loadPart' hl)
      | (refine wpAny_ite_true (decide_eq_true c1) ?_; wp_walk using wpAny_loadPart' hl))
    all_goals exact ⟨_, rfl, h⟩
def rRepT1 (K : PySem.W.Frag) : R2 := fun x y H Q => ∃ l xs, x = .ref l ∧ y = .int 1 ∧ SqT K H l xs ∧ Q x H
section
variable {X : Cx}
theorem op_repT1 : OpR X (binaryOp .Mult) (rRepT1 X.K) := by
  intro pins s σ H x y v u Q I rx ry h
  obtain ⟨l, xs, rfl, rfl, hT, q⟩ := h
  cases rx
  obtain ⟨t, rfl⟩ := ry
  obtain ⟨its, r, ⟨⟨cls, dd, data, sl⟩, ho, hc, n, hd⟩, hs⟩ := I.tuple hT
  simp only at hc hd
  subst hc hd
  exact wpAny_binaryOp_repeat_ref (T := "tuple") (U := "int") (by decide) ⟨_, ho, rfl⟩ (fun s' => typeIs_int s' 1 t) noFill_tuple_mul F.fills_int_mul F.slot_int_rmul repeat_tuple F.slot_int_index.lookup
    (call_meets F.slot_int_rmul (typeIs_int s 1 t) F.entry_int_rmul (F.args_int_rmul_2 _ _) (int_rmul_tuple 1 t l its.toArray n dd sl)
      ⟨ho, rfl, ⟨_, ho, rfl⟩, call_meets F.slot_tuple_mul ⟨_, ho, rfl⟩ F.entry_tuple_mul (F.args_tuple_mul_2 _ _) (tuple_mulOne l its.toArray n t) ⟨⟨dd, sl, ho⟩, ⟨.ref l, H, I, rfl, q⟩⟩⟩)
def rRepA (K : PySem.W.Frag) : R2 := fun x y H Q => rRepT K x y H Q ∨ rRepT1 K x y H Q
theorem k_repA {K : PySem.W.Frag} (hK : X.K = K) : OpR X (binaryOp .Mult) (rRepA K) := hK ▸ op_repT.or op_repT1
/-- x[a:b], a list, a tuple, a text -/
def rSlAll (K : PySem.W.Frag) : V → Option Int → Option Int → Hp → VK → Prop := fun x lo hi H Q => rSlL K x lo hi H Q ∨ (fun x lo hi H Q => rSlA K x lo hi H Q ∨ rSlS x lo hi H Q) x lo hi H Q
theorem k_sl {K : PySem.W.Frag} (hK : X.K = K) : SlR X (rSlAll K) := hK ▸ sl_list.or (sl_tupA.or sl_str)
theorem k_ienumT {K : PySem.W.Frag} (hK : X.K = K) {e : Expr} {t : TA} {p pos tpos : Pos} {elts : List Expr} {kk : Nat} (hm : X.mg "enumerate" = none) (ha : PA X [e] t) (hg : Gl X "enumerate" := by rfl) (hs : starEach [e] X.env = [(false, eval e X.env)] := by rfl) :
    PI X (.Tuple elts kk tpos) (.Call (.Name "enumerate" p) [e] [] pos) (iEnumT K t) := hK ▸ pi_enumT hg hm ha hs
end
end L2
namespace Ew
open PySem PySem.Spec PyProof.Rows L2
def cutD {α : Type} (xs : List α) (lo hi : Option Int) : List α := (xs.drop (HT.sIx xs.length 0 lo)).take (HT.sIx xs.length xs.length hi - HT.sIx xs.length 0 lo)
section
variable {W : Wd} {Γ Γ' : Gam} {K : PySem.W.Frag} {T U A C P : Typ} {Ts Us : List Typ} {ds es : List PyData} {d : PyData} {ta : TA} {te tb : TE} {i j : Int} {N : Sx → Hp → Prop} {R : V → Hp → Prop} {Bk Ct : Sx → Hp → Prop} {tl th : TO} {lo hi : Option Int} {n m k : Nat}
def TyO (W : Wd) (Γ : Gam) (t : TO) (o : Option Int) : Prop := ∀ σ H, Cxt W H → EnvW W Γ σ H → ∀ Q : Option Int → Hp → Prop, (∀ H1, Ex W.B H H1 → Q o H1) → t σ H Q
theorem tyo_none : TyO W Γ tNoPart none := fun σ H c g Q q => q H (Ex.refl _ _)
theorem tyo_some (h : Ty W Γ te (dt K (.int i))) : TyO W Γ (tPart te) (some i) := fun σ H c g Q q => h σ H c g _ fun v H1 e hv => by
  cases hv
  exact ⟨i, rfl, q H1 e⟩
theorem RpA.drop' {M : Addr → Prop} {H : Hp} : ∀ {vs : List V} {ds : List PyData} (n : Nat), RpA M K H vs ds → RpA M K H (vs.drop n) (ds.drop n)
  | _, _, 0, h => h
  | _, _, _ + 1, .nil => .nil
  | _, _, n + 1, .cons _ r => RpA.drop' n r
theorem RpA.take' {M : Addr → Prop} {H : Hp} : ∀ {vs : List V} {ds : List PyData} (n : Nat), RpA M K H vs ds → RpA M K H (vs.take n) (ds.take n)
  | _, _, 0, _ => .nil
  | _, _, _ + 1, .nil => .nil
  | _, _, n + 1, .cons h r => .cons h (RpA.take' n r)
theorem RpA.cut {M : Addr → Prop} {H : Hp} {vs : List V} {ds : List PyData} (h : RpA M K H vs ds) (lo hi : Option Int) : RpA M K H (cutV vs lo hi) (cutD ds lo hi) := by
  unfold cutV cutD
  rw [h.length]
  exact (h.drop' _).take' _
theorem cut_whole {α : Type} {xs : List α} (h : HT.sIx xs.length 0 lo = 0 ∧ HT.sIx xs.length xs.length hi = xs.length) : cutD xs lo hi = xs := by
  unfold cutD
  rw [h.1, h.2, List.drop_zero, Nat.sub_zero, List.take_length]
theorem ty_slL (h : Ty W Γ te (dt K (.list ds))) (hl : TyO W Γ tl lo) (hh : TyO W Γ th hi) : Ty W Γ (tSl (rSlAll K) te tl th) (dt K (.list (cutD ds lo hi))) := fun σ H c g Q q =>
  h σ H c g _ fun v H1 e1 hv => hl σ H1 (c.up e1) (g.up e1.toW) _ fun H2 e2 => hh σ H2 (c.up (e1.trans e2)) (g.up (e1.trans e2).toW) _ fun H3 e3 => by
    have hv3 := Rp.up (e2.trans e3).toW hv
    cases hv3 with
    | lst h1 h2 h3 => exact .inl ⟨_, _, rfl, SqL.of h1, fun p hp => q _ _ ((e1.trans (e2.trans e3)).trans (Ex.new hp)) (.lst upd_same (c.nm ((e1.trans (e2.trans e3)).free hp)) (RpA.up (Ex.new (B := W.B) hp).toW (h3.cut lo hi)))⟩
theorem ty_slT (h : Ty W Γ te (dt K (.tuple ds))) (hl : TyO W Γ tl lo) (hh : TyO W Γ th hi) : Ty W Γ (tSl (rSlAll K) te tl th) (dt K (.tuple (cutD ds lo hi))) := fun σ H c g Q q =>
  h σ H c g _ fun v H1 e1 hv => hl σ H1 (c.up e1) (g.up e1.toW) _ fun H2 e2 => hh σ H2 (c.up (e1.trans e2)) (g.up (e1.trans e2).toW) _ fun H3 e3 => by
    have hv3 := Rp.up (e2.trans e3).toW hv
    have e13 := e1.trans (e2.trans e3)
    cases hv3 with
    | @tup a xs _ h1 h3 =>
      refine .inr (.inl ⟨_, _, rfl, h1, fun w => q _ _ e13 ?_, fun _ p hp => q _ _ (e13.trans (Ex.new hp)) (.tup (SqT.of upd_same) (RpA.up (Ex.new (B := W.B) hp).toW (h3.cut lo hi)))⟩)
      rw [h3.length] at w
      rw [cut_whole w]
      exact .tup h1 h3
theorem ty_slS {z : Str} (hz : z.length ≤ 1000000) (h : Ty W Γ te (dt K (.str z))) (hl : TyO W Γ tl lo) (hh : TyO W Γ th hi) : Ty W Γ (tSl (rSlAll K) te tl th) (dt K (.str (cutS z lo hi))) := fun σ H c g Q q =>
  h σ H c g _ fun v H1 e1 hv => hl σ H1 (c.up e1) (g.up e1.toW) _ fun H2 e2 => hh σ H2 (c.up (e1.trans e2)) (g.up (e1.trans e2).toW) _ fun H3 e3 => by
    have hv3 := Rp.up (e2.trans e3).toW hv
    have e13 := e1.trans (e2.trans e3)
    cases hv3 with
    | str => exact .inr (.inr ⟨z, rfl, sz_le hz, q _ _ e13 (.str _)⟩)
theorem opt_ixS {z : Str} {c : Nat} (hz : z.length ≤ 1000000) (e : atI z.cps.toList i = some c) : OpT W (rIx K) (dt K (.str z)) (dt K (.int i)) (dt K (.str ⟨#[c]⟩)) := fun u v H cx hu hv Q q => by
  cases hu
  cases hv
  exact .inr (.inr ⟨z, i, c, rfl, rfl, sz_le hz, e, q _ H (Ex.refl _ _) (.str _)⟩)
/-- tuple * int -/
theorem opt_repA (h0 : 1 ≤ j) (h1 : j ≤ 1000) (hn : ds ≠ []) (hz : ds.length ≤ 1000) : OpT W (rRepA K) (dt K (.tuple ds)) (dt K (.int j)) (dt K (.tuple (List.replicate j.toNat ds).flatten)) := fun u v H c hu hv Q q => by
  by_cases e : j = 1
  · subst e
    cases hv
    cases hu with
    | @tup a xs _ h2 h3 =>
      refine .inr ⟨a, xs, rfl, rfl, h2, q _ H (Ex.refl _ _) ?_⟩
      have e2 : (List.replicate (1 : Int).toNat ds).flatten = ds := by
        show (List.replicate 1 ds).flatten = ds
        simp
      rw [e2]
      exact .tup h2 h3
  · exact .inl (opt_repT (by omega) h1 hn hz u v H c hu hv Q q)
/-! ### enumerate of a tuple -/
theorem walk_enumT {a : Addr} {xs : List V} : Walk (IteT K a) xs.length (fun H => SqT K H a xs) (YPair (fun i => some (.int (i : Nat))) (fun i => xs[i]?)) := by
  refine ⟨fun i _ hi q => ⟨xs, xs[i], q, by simp⟩, fun _ q => ⟨xs, q, Nat.le_refl _⟩, fun i H v H' _ q y => ?_⟩
  obtain ⟨T, x, h1, h2, h3, h4⟩ := y
  exact ⟨T, _, x, h1, h2, h3, rfl, h4 xs q⟩
theorem tyi_enumT (h : TyA W Γ ta [tupT K Ts]) : TyI W Γ (iEnumT K ta) ((List.range Ts.length).map fun i => tupT K [dt K (.int (i : Nat)), Ts.getD i (isV .non)]) := fun σ H c g R q => h σ H c g _ fun us H1 e hu => by
  obtain ⟨v, rfl, a, xs, rfl, h2, h3⟩ := hu.one
  refine ⟨a, xs, rfl, h2, q _ H1 e ⟨fun H => SqT K H a xs, YPair (fun i => some (.int (i : Nat))) (fun i => xs[i]?), by rw [List.length_map, List.length_range, ← h3.length]; exact walk_enumT, h2, fun M' m => ⟨fun Ha Hb f z => f.sqT z, fun i Ha x Hb T hT f z y => ?_⟩⟩⟩
  obtain ⟨Tp, x0, y0, rfl, hn, rfl, ex, ey⟩ := y
  cases ex
  obtain ⟨hl, rfl⟩ := range_map_get hT
  obtain ⟨w, h4, h5⟩ := (m.tys h3).get (List.getElem?_eq_getElem hl)
  have ey' := h4.symm.trans ey
  cases ey'
  refine ⟨Ex.new hn, Tp, _, rfl, SqT.of upd_same, .int _, ?_, True.intro⟩
  show (Ts.getD i (isV .non)).p M' W.B y0 _
  rw [List.getD_eq_getElem?_getD, List.getElem?_eq_getElem hl]
  exact Typ.up _ (f.trans ((Ex.new (B := W.B) hn).toM m.sub)) h5
/-! ### several names at once -/
theorem tys_par (h : TyA W Γ ta [A, C]) : TyS W Γ (tPar n m ta) (nE W ((Γ.set n (some A)).set m (some C))) R Bk Ct := fun σ H c g D dn _ _ _ => h σ H c g _ fun us H1 e hu => by
  obtain ⟨v, w, rfl, h1, h2⟩ := hu.two
  exact ⟨v, w, rfl, dn _ H1 e.toW ⟨c.up e, EnvL.set h2 (EnvL.set h1 (g.up e.toW))⟩⟩
theorem tys_par3 (h : TyA W Γ ta [A, C, P]) : TyS W Γ (tPar3 n m k ta) (nE W (((Γ.set n (some A)).set m (some C)).set k (some P))) R Bk Ct := fun σ H c g D dn _ _ _ => h σ H c g _ fun us H1 e hu => by
  match us, hu with
  | [u, v, w], hu => exact ⟨u, v, w, rfl, dn _ H1 e.toW ⟨c.up e, EnvL.set hu.2.2.1 (EnvL.set hu.2.1 (EnvL.set hu.1 (g.up e.toW)))⟩⟩
/-- x = e or a, b = e by a target -/
theorem tys_asg {g : TG} (h : Ty W Γ te T) (hg : TyG W Γ g T Γ') : TyS W Γ (tAsg te g) (nE W Γ') R Bk Ct := fun σ H c e D dn _ _ _ => h σ H c e _ fun v H1 e1 hv =>
  hg v σ H1 (c.up e1) (e.up e1.toW) hv _ fun σ' H' e2 g' => dn σ' H' (e1.trans e2).toW ⟨c.up (e1.trans e2), g'⟩
/-- what just is known to be there is opened -/
theorem TyS.openX {α : Type} {A : α → Typ} {ts : TS} {n : Nat} (hn : Γ[n]? = some (some (exT A))) (h : ∀ x, TyS W (Γ.set n (some (A x))) ts N R Bk Ct) : TyS W Γ ts N R Bk Ct := fun σ H c g => by
  obtain ⟨v, h1, x, h2⟩ := g.get hn
  refine h x σ H c ?_
  have z := EnvL.set (T := A x) (i := n) h2 g
  have e : σ.set n (some v) = σ := by
    apply List.ext_getElem?
    intro i
    by_cases hi : n = i
    · subst hi
      rw [List.getElem?_set_self (List.getElem?_eq_some_iff.mp h1).1, h1]
    · rw [List.getElem?_set_ne hi]
  rw [e] at z
  exact z
theorem TyS.openG {φ : Prop} {ts : TS} {n : Nat} (hn : Γ[n]? = some (some (gd φ A))) (h : φ → TyS W (Γ.set n (some A)) ts N R Bk Ct) : TyS W Γ ts N R Bk Ct := fun σ H c g => by
  obtain ⟨v, h1, f, h2⟩ := g.get hn
  refine h f σ H c ?_
  have z := EnvL.set (T := A) (i := n) h2 g
  have e : σ.set n (some v) = σ := by
    apply List.ext_getElem?
    intro i
    by_cases hi : n = i
    · subst hi
      rw [List.getElem?_set_self (List.getElem?_eq_some_iff.mp h1).1, h1]
    · rw [List.getElem?_set_ne hi]
  rw [e] at z
  exact z
end
end Ew

end
section
set_option Elab.async false
set_option linter.all false
set_option maxRecDepth 100000
set_option maxHeartbeats 2000000
/-! EwP: dicts of one entry. -/
namespace Ew
open PySem PySem.Spec PyProof.Rows L2
theorem hu1 {a : Nat} (h : a + 64 < cLine) : a + 1 < cLine := by omega
def rLenA (K : PySem.W.Frag) : List V → Hp → VK → Prop := fun xs H Q => rLen K xs H Q ∨ ∃ a kvs, xs = [V.ref a] ∧ H a = some (.dK kvs) ∧ Q (.int (kvs.length : Nat)) H
section
variable {X : Cx} {e : Expr} {es : List Expr} {t : TA} {p pos : Pos}
theorem k_lenA {K : PySem.W.Frag} (hK : X.K = K) (m : X.mg "len" = none) (ha : PA X (e :: es) t) (hg : Gl X "len" := by rfl) (he : starEach (e :: es) X.env = (false, eval e X.env) :: starEach es X.env := by rfl) (hpl : (backTo pos (starEach es X.env)).any (·.1) = false := by rfl) :
    PE X (.Call (.Name "len" p) (e :: es) [] pos) (tCB (rLenA K) t) := hK ▸ pe_callB (CallR.or call_len call_lenD) hg m PySem.boot_len ha (by decide) (by decide) he hpl
end
section
variable {W : Wd} {Γ Γ' : Gam} {K : PySem.W.Frag} {As : List Typ} {P : Typ} {te tb : TE} {tt : TT} {i : Int} {x : Str} {kvs : List (PyData × PyData)}
theorem cbt_lenA (h : CbT W (rLen K) As P) : CbT W (rLenA K) As P := fun us H c hu Q q => .inl (h us H c hu Q q)
theorem RpK.length {M : Addr → Prop} {H : Hp} : ∀ {vs : List (Key × V)} {ds : List (PyData × PyData)}, RpK M K H vs ds → vs.length = ds.length
  | _, _, .nil => rfl
  | _, _, .cons _ r => by rw [List.length_cons, List.length_cons, RpK.length r]
theorem cbt_lenDict : CbT W (rLenA K) [dt K (.dict kvs)] (dt K (.int (kvs.length : Nat))) := fun us H c hu Q q => by
  obtain ⟨v, rfl, h⟩ := hu.one
  cases h with
  | dic h1 h2 => exact .inr ⟨_, _, rfl, h1, q _ H (Ex.refl _ _) (by rw [RpK.length h2]; exact .int _)⟩
/-- {x: i} -/
theorem ty_disp1 {tk tv : TE} (hk : Ty W Γ tk (dt K (.str x))) (hv : Ty W Γ tv (dt K (.int i))) : Ty W Γ (tDisp [(tk, tv)]) (dt K (.dict [(.str x, .int i)])) := fun σ H c g Q q => fun p hp => by
  have e0 : Ex W.B H (upd H p (.dK [])) := Ex.new hp
  refine hk σ _ (c.up e0) (g.up e0.toW) _ fun u H1 e1 h1 => hv σ H1 (c.up (e0.trans e1)) (g.up (e0.trans e1).toW) _ fun v H2 e2 h2 => ?_
  cases h1
  cases h2
  have hp2 : H2 p = some (.dK []) := e2.keepT (e1.keepT upd_same fun _ z => nomatch z) fun _ z => nomatch z
  refine ⟨hp2, [(.inr x, .int i)], rfl, (by show 1 ≤ 15; decide), q _ _ ((e0.trans (e1.trans e2)).mut hp) (.dic upd_same (.cons (.int i) .nil))⟩
end
end Ew

end
section
set_option Elab.async false
set_option linter.all false
set_option maxRecDepth 100000
set_option maxHeartbeats 1000000
/-! EwW: while by types; a list of one's own that grows. -/
namespace Ew
open PySem PySem.Spec PyProof.Rows L2
section
variable {W : Wd} {Γ Γ' : Gam} {K : PySem.W.Frag} {T : Typ} {Ts : List Typ} {te : TE} {tt : TT} {tb tw : TS} {i : Nat} {N : Sx → Hp → Prop} {R : V → Hp → Prop} {Bk Ct : Sx → Hp → Prop}
/-- while: before a turn the slots are Γi x, for some x with I; m falls -/
theorem tys_while {α : Type} (I : α → Prop) (Γi : α → Gam) (m : α → Nat) (x0 : α) (i0 : I x0) (h0 : ∀ σ H, nE W Γ σ H → nE W (Γi x0) σ H)
    (hs : ∀ x, I x → ∃ φ : Bool → Prop, Tt W (Γi x) tt φ ∧ (φ true → TyS W (Γi x) tb (fun σ H => ∃ y, I y ∧ m y < m x ∧ nE W (Γi y) σ H) R N (fun σ H => ∃ y, I y ∧ m y < m x ∧ nE W (Γi y) σ H)) ∧ (φ false → ∀ σ H, nE W (Γi x) σ H → N σ H)) :
    TyS W Γ (tWhile tt tb) N R Bk Ct := fun σ H c g D dn dr db dc => by
  refine ⟨fun n σ1 H1 => ∃ x, I x ∧ m x = n ∧ nE W (Γi x) σ1 H1 ∧ Exm W.M W.B H H1, ⟨m x0, x0, i0, rfl, h0 σ H ⟨c, g⟩, Exm.refl _ _ _⟩, ?_⟩
  rintro n σ1 H1 ⟨x, ix, rfl, n1, e1⟩
  obtain ⟨φ, ht, hy, hn⟩ := hs x ix
  refine ht σ1 H1 n1.1 n1.2 _ fun b H2 e2 hb => ?_
  have c2 := n1.1.up e2
  have g2 := n1.2.up e2.toW
  have e12 := e1.trans e2.toW
  cases b with
  | true =>
    rw [if_pos rfl]
    refine ⟨fun σ' H' => ∃ y, I y ∧ m y < m x ∧ nE W (Γi y) σ' H' ∧ Exm W.M W.B H H', fun σ' H' ⟨y, iy, ly, ny, ey⟩ => ⟨m y, ly, y, iy, rfl, ny, ey⟩, ?_⟩
    exact hy hb σ1 H2 c2 g2 _ (fun σ' H' e3 ⟨y, iy, ly, ny⟩ => ⟨y, iy, ly, ny, e12.trans e3⟩) dr (fun σ' H' e3 n3 => dn σ' H' (e12.trans e3) n3) (fun σ' H' e3 ⟨y, iy, ly, ny⟩ => ⟨y, iy, ly, ny, e12.trans e3⟩)
  | false =>
    rw [if_neg Bool.false_ne_true]
    exact dn σ1 H2 e12 (hn hb σ1 H2 ⟨c2, g2⟩)
end
/-! ### a list of one's own -/
/-- the list at D holds values of the types Ts -/
def Wd.own (W : Wd) (D : Addr) (nb : ¬ W.B D) (Ts : List Typ) : Wd := ⟨Ew.ad W.M D, W.B, W.H0, fun H => (∃ H1, W.Ω H1 ∧ H1 D = none ∧ Ex W.B H1 H) ∧ W.H0 D = none ∧ ∃ xs, H D = some (.lst xs) ∧ TysV (Ew.ad W.M D) W.B Ts xs H, fun a h => .inl (W.sub a h),
  fun e ⟨⟨H1, z1, z2, z3⟩, h0, xs, h1, h2⟩ => ⟨⟨H1, z1, z2, z3.trans e⟩, h0, xs, e.keep h1 nb, h2.up (e.toM fun a h => .inl (W.sub a h))⟩⟩
section
variable {W : Wd} {Γ Γ' : Gam} {K : PySem.W.Frag} {T U : Typ} {Ts : List Typ} {te ta : TE} {tw : TS} {i : Nat} {N : Sx → Hp → Prop} {R : V → Hp → Prop} {Bk Ct : Sx → Hp → Prop} {D : Addr} {nb : ¬ W.B D}
/-- found = [], then the rest -/
theorem tys_own (h : TyL W Γ te []) (hb : ∀ D (nb : ¬ W.B D), ¬ W.M D → TyS (W.own D nb []) (Γ.set i (some (isV (.ref D)))) tw noN R noN noN) : TyS W Γ (tSeq (tAsg te (gName i)) tw) noN R Bk Ct := fun σ H c g E dn dr db dc =>
  h σ H c g _ fun p xs H1 e hp h1 h2 => by
    have nm : ¬ W.M p := c.nm hp
    have nb : ¬ W.B p := c.nb hp
    have c1 := c.up e
    have c2 : Cxt (W.own p nb []) H1 := ⟨c1.box, fun a z => z.elim (c1.al a) (fun w => by rw [w, h1]; intro q; cases q), c1.ex, ⟨H, c.own, hp, e⟩, c.ex.free hp, xs, h1, by
      match xs, h2 with
      | [], _ => exact True.intro⟩
    have g1 : EnvL (Ew.ad W.M p) W.B Γ σ H1 := (EnvL.weak hp g).up (e.toM fun a h => .inl (W.sub a h))
    exact hb p nb nm _ H1 c2 (EnvL.set (T := isV (.ref p)) rfl g1) E (fun _ _ _ z => z.elim) dr (fun _ _ _ z => z.elim) (fun _ _ _ z => z.elim)
/-- what a def hands back out of the wider world -/
theorem tys_retO (h : Ty (W.own D nb Ts) Γ te T) : TyS (W.own D nb Ts) Γ (tRet te) noN (rW W T) Bk Ct := tys_ret h fun v H c k => ⟨c.ex, T.drop k⟩
/-- the list is done: from here on it is a list as any other -/
theorem tys_fin (hi : Γ[i]? = some (some (isV (.ref D)))) (nm : ¬ W.M D) (h : TyS W (Γ.set i (some (lstT Ts))) tw noN R noN noN) : TyS (W.own D nb Ts) Γ tw noN R Bk Ct := fun σ H c g E dn dr db dc => by
  obtain ⟨v, h1, h2⟩ := g.get hi
  have hv : v = .ref D := h2
  subst hv
  obtain ⟨⟨H1, o1, o2, o3⟩, _, xs, o4, o5⟩ := c.own
  have c1 : Cxt W H := ⟨c.box, fun a z => c.al a (.inl z), c.ex, W.kept o3 o1⟩
  have g1 : EnvL W.M W.B Γ σ H := EnvL.drop g
  have z := EnvL.set (T := lstT Ts) (i := i) (v := .ref D) ⟨D, xs, rfl, nm, o4, o5.drop⟩ g1
  have e : σ.set i (some (V.ref D)) = σ := by
    apply List.ext_getElem?
    intro j
    by_cases hj : i = j
    · subst hj
      rw [List.getElem?_set_self (List.getElem?_eq_some_iff.mp h1).1, h1]
    · rw [List.getElem?_set_ne hj]
  rw [e] at z
  exact h σ H c1 z E (fun _ _ _ z => z.elim) dr (fun _ _ _ z => z.elim) (fun _ _ _ z => z.elim)
/-- the own list's new state -/
theorem own_put {Us : List Typ} {H : Hp} {xs ys : List V} (c : Cxt (W.own D nb Ts) H) (h : H D = some (.lst xs)) (hy : TysV (Ew.ad W.M D) W.B Us ys (upd H D (.lst ys))) : Cxt (W.own D nb Us) (upd H D (.lst ys)) ∧ Exm (W.own D nb Ts).M (W.own D nb Ts).B H (upd H D (.lst ys)) := by
  have put : Exm (Ew.ad W.M D) W.B H (upd H D (.lst ys)) := Exm.put (.inr rfl) nb h
  obtain ⟨⟨H1, o1, o2, o3⟩, o0, _, _, _⟩ := c.own
  refine ⟨⟨fun a z => put.box z (c.box a z), fun a z q => ?_, c.ex.mut o0, ⟨H1, o1, o2, o3.mut o2⟩, o0, ys, upd_same, hy⟩, put⟩
  by_cases ea : a = D
  · rw [ea, upd_same] at q; cases q
  · rw [upd_ne ea] at q; exact c.al a z q
/-- found.append(e) -/
theorem tys_append (hi : Γ[i]? = some (some (isV (.ref D)))) (h : Ty (W.own D nb Ts) Γ te T) (hz : Ts.length < 1000000) : TyS (W.own D nb Ts) Γ (tDrop (tBM K "list" rAppend (tVar i) (tCons te tNil))) (nE (W.own D nb (Ts ++ [T])) Γ) R Bk Ct := fun σ H c g E dn dr db dc => by
  obtain ⟨v, h1, h2⟩ := g.get hi
  have hv : v = .ref D := h2
  subst hv
  obtain ⟨_, _, xs0, q0, _⟩ := c.own
  refine ⟨.ref D, h1, .inl ⟨rfl, _, SqL.of q0⟩, h σ H c g _ fun y H2 e hy => ?_⟩
  have c2 := c.up e
  obtain ⟨_, _, xs, q1, q2⟩ := c2.own
  have put : Exm (Ew.ad W.M D) W.B H2 (upd H2 D (.lst (xs ++ [y]))) := Exm.put (.inr rfl) nb q1
  have w := own_put (nb := nb) (Ts := Ts) (Us := Ts ++ [T]) (ys := xs ++ [y]) c2 q1 ((q2.append (show TysV (Ew.ad W.M D) W.B [T] [y] H2 from ⟨hy, True.intro⟩)).up put)
  exact ⟨D, xs, y, rfl, rfl, q1, by rw [q2.length]; exact sz_lt hz, dn σ _ (e.toW.trans w.2) ⟨w.1, (g.up e.toW).up w.2⟩⟩
end
end Ew

end
section
set_option Elab.async false
set_option linter.all false
set_option maxRecDepth 100000
set_option maxHeartbeats 2000000
/-! EwN: an own exception whose own __init__ calls the base class's own __init__ through super(), then keeps a second field, count. -/
namespace PySem
namespace WrX
open PySem.W PySem.Calls PyProof.Rows PySem.HandSPX
/-! ### the text: def __init__(self, count): super().__init__(count); self.count = count -/
def jA (p1 p2 : Pos) : Arguments := { posonlyargs := [], args := [{ arg := "self", annotation := none, pos := p1 }, { arg := "count", annotation := none, pos := p2 }], vararg := none, kwonlyargs := [], kw_defaults := [], kwarg := none, defaults := [] }
def jB (q1 q2 q3 q4 q5 q6 q7 q8 q9 q10 : Pos) : List Stmt := [.Expr (.Call (.Attribute (.Call (.Name "super" q1) [] [] q2) "__init__" q3) [.Name "count" q4] [] q5) q6, .Assign [.Attribute (.Name "self" q7) "count" q8] (.Name "count" q9) q10]
def jS : Scope := { kind := .function, names := [(PySem.Str.ofString "self", .local), (PySem.Str.ofString "count", .local), (PySem.Str.ofString "__class__", .free), (PySem.Str.ofString "super", .globalImplicit)], isGenerator := false, isCoroutine := false, more := [] }
/-- the own __init__ at fJ of the class C (a ClsTxt) over D -/
structure OwnTxt (prog : Program) (K : Frag) (qn : Str) (D fI C fJ : Addr) : Prop where
  fn : ∃ (oc : Value) (od : Option Addr) (kV doc pm : Value) (an : Option Addr) (cda cc : Addr) (ct : Value) (osl : Array (Option Value)) (p1 p2 q1 q2 q3 q4 q5 q6 q7 q8 q9 q10 : Pos) (ccl cl : Value) (cdd cld : Option Addr) (vs : Array Value) (ccs csl : Array (Option Value)) (file : Str) (tf : Tok),
    K.lookup fJ = some ⟨oc, od, .func (ksFn "__init__" qn (jA p1 p2) (jB q1 q2 q3 q4 q5 q6 q7 q8 q9 q10) jS .none kV doc pm an (.ref cda) ct cc), osl⟩ ∧ codeIn K (.ref cda) qn = true ∧
    K.lookup cda = some ⟨ccl, cdd, .fields vs, ccs⟩ ∧ vs[2]? = some (.str file tf) ∧ ((prog.main.file : Str) == file) = true ∧ K.lookup cc = some ⟨cl, cld, .cell (some (.ref C)), csl⟩ ∧ (q3.endLine == q5.line) = true
  noN : findIn K (.ref C) "count" = some none
  al : alongIn K "__init__" (.ref D :: veTail) = some (some (.ref fI))
  tI : typeIn K (.ref fI) = some (.type "function")
  fI : fnIn K fI = true
theorem mro_self {K : Frag} {C : Addr} {cd : ClassData} {l : List Value} (hcd : clsIn K C = some cd) (hm : cd.mro = .ref C :: l) : mroIn K C (.ref C) = some true := by
  unfold mroIn
  rw [hcd, Option.bind_some, hm, if_neg (show ¬ (List.isEmpty (Value.ref C :: l) = true) from Bool.false_ne_true)]
  simp
theorem drop_self (C : Addr) (l : List Value) : ((Value.ref C :: l).dropWhile (· != .ref C)).drop 1 = l := by
  rw [List.dropWhile_cons, if_neg (by simp)]
  rfl
/-- what the own __init__ leaves -/
structure OwnEnd (h h' : Heap) (x C dx t1 : Addr) (v : Value) : Prop where
  keep : ∀ b o, b ≠ x → h.get? b = some o → h'.get? b = some o
  obj : h'.get? x = some { cls := .ref C, dict := some dx, data := .fields #[.ref t1, .none, .none, .none, .bool false, .none] }
  dbig : h.objs.size ≤ dx
  dne : dx ≠ x
  ns : h'.Ns1 dx (fun y => if y = "count" then some v else if y = "given" then some v else none)
/-- a made one -/
structure OwnMade2 (h h' : Heap) (e C d : Addr) (v : Value) : Prop where
  keep : ∀ b o, h.get? b = some o → h'.get? b = some o
  new : h.objs.size ≤ e
  obj : ∃ oe vs, h'.get? e = some oe ∧ oe.cls = .ref C ∧ oe.dict = some d ∧ oe.data = .fields vs ∧ vs[1]? = some .none
  dbig : h.objs.size ≤ d
  dne : d ≠ e
  ns : h'.Ns1 d (fun y => if y = "count" then some v else if y = "given" then some v else none)
section
variable {prog : Program} {w : World} {A : Around} {E : Value → Shared → Prop} {R : Result → Shared → Prop} {s : Shared} {K : Frag} {mg mb : Str → Option Value} {C D fI fJ : Addr} {qn : Str}
theorem callWith_N {M : Model} {pos : Pos} {env : Env} {q g : Addr} {self : Value} {e : Expr} {rest : List Expr} {Q : Value → Shared → Prop} (hf : fnIn K g = true) (h : wpAny M A (spliced (backTo pos (starEach (e :: rest) env))) (fun vs s₁ => MethP K q g self s₁.heap ∧ wpAny M A (call (.ref q) vs) Q E s₁) E s)
    (he : starEach (e :: rest) env = (false, eval e env) :: starEach rest env := by rfl) (hplain : (backTo pos (starEach rest env)).any (·.1) = false := by rfl) :
    wpAny M A (callWith pos (.ref q) [] (backTo pos (starEach (e :: rest) env)) []) Q E s := by
  rw [he] at h ⊢
  exact callWith_of (by show ((false || (backTo pos (starEach rest env)).any (·.1)) || false) = false; rw [hplain]; rfl) (keeps_M hf) (evalArgs_plain h)
theorem own_init {nm : Str} (Bt : BaseTxt prog K mg D fI) (T : ClsTxt K mg nm D fJ C) (J : OwnTxt prog K qn D fI C fJ) {x t0 : Addr} {v : Value} (X : K.In s.heap) (hlim : s.heap.NoLimit) (G : s.heap.Ns mainGlobals mg) (GB : ∃ mb, s.heap.Ns builtinsNs mb ∧ ∀ x : Str, x ≠ "__name__" → mb x = bootBuiltins x)
    (hx : s.heap.get? x = some (excO C t0)) (hnx : K.lookup x = none) (hroom : A.depth + 3 < recursionLimit)
    (hq : ∀ h' tk dx t1, OwnEnd s.heap h' x C dx t1 v → R (.ok (.ret .none)) { s with heap := h', toks := tk }) :
    codeAny (model prog w) A (.call (.ref fJ) ⟨[.ref x, v], []⟩) R s := by
  obtain ⟨oc, od, kV, doc, pm, an, cda, cc, ct, osl, p1, p2, q1, q2, q3, q4, q5, q6, q7, q8, q9, q10, ccl, cl, cdd, cld, vs, ccs, csl, file, tf, ho, hcd, hcode, hvs, hfile, hcell, hline⟩ := J.fn
  obtain ⟨nm', q, N, bs, sn, sub, ab, col, dd, k0, k1, k2, k3, k5, hC⟩ := T.cls
  have hcl : clsIn K C = some { name := nm', bases := bs, mro := .ref C :: .ref D :: veTail, ns := N, qualname := q, hasDict := true, slotNames := sn, subclasses := sub, abstract := ab, collection := col, hasDel := false } := by unfold clsIn; rw [hC] <;> rfl
  obtain ⟨mb, hbn, hbm⟩ := GB
  obtain ⟨hp, g, d, t, os⟩ := s
  have hxC : x ≠ C := fun z => by rw [z, hC] at hnx; cases hnx
  refine ks_codeAny_call_defAt (fd := ksFn "__init__" qn (jA p1 p2) (jB q1 q2 q3 q4 q5 q6 q7 q8 q9 q10) jS .none kV doc pm an (.ref cda) ct cc) (body := jB q1 q2 q3 q4 q5 q6 q7 q8 q9 q10) (binds := [("self", .ref x), ("count", v)])
    (by omega) (X _ _ ho) rfl hlim (codeRec_of X hcd) rfl (.of_eq rfl) ?cell ?loc (fun h₁ hns₁ k₁ => ?_) rfl rfl rfl
  case cell =>
    intro y hy
    rcases List.mem_cons.mp hy with rfl | hy
    · exact fun z => by cases z
    rcases List.mem_cons.mp hy with rfl | hy
    · exact fun z => by cases z
    rcases List.mem_cons.mp hy with rfl | hy
    · exact fun z => by cases z
    rcases List.mem_cons.mp hy with rfl | hy
    · exact fun z => by cases z
    cases hy
  case loc =>
    intro y hy
    rcases List.mem_cons.mp hy with rfl | hy
    · rfl
    rcases List.mem_cons.mp hy with rfl | hy
    · rfl
    cases hy
  have X₁ : K.In h₁ := X.keeps k₁
  have hx₁ := k₁ _ _ hx
  have hxL : hp.objs.size ≠ x := Nat.ne_of_gt (Heap.lt_size hx)
  have hC₁ := X₁ _ _ hC
  show _root_.PySem.wpAt (model prog w) _ (.func (jB q1 q2 q3 q4 q5 q6 q7 q8 q9 q10) (ksEnv qn jS hp.objs.size fJ (.ref cda) cc)) (execs (jB q1 q2 q3 q4 q5 q6 q7 q8 q9 q10) (ksEnv qn jS hp.objs.size fJ (.ref cda) cc)) _ _ _
  refine ks_wpAt_execs_cons ?_
  refine ks_wpAt_Expr_any ?_
  refine ks_wpAt_MethodCall (pl := L2.plainOf (.Call (.Name "super" q1) [] [] q2) (ksEnv qn jS hp.objs.size fJ (.ref cda) cc)) ?_ (he_line hline)
  refine (ks_wpAt_super_base (env := ksEnv qn jS hp.objs.size fJ (.ref cda) cc) rfl rfl (by decide) rfl (X₁ _ _ ho) rfl rfl rfl (X₁ _ _ hcode) rfl hvs hfile Bt.top ?_)
  refine ks_loadName_global rfl rfl (loadGlobal_builtin (env := ksEnv qn jS hp.objs.size fJ (.ref cda) cc) (G.keeps k₁) Bt.mS (hbn.keeps k₁) ((hbm _ (by decide)).trans boot_super) ⟨rfl, ?_⟩)
  refine wpAny_loadName_free rfl rfl rfl ⟨_, X₁ _ _ hcell, rfl⟩ ?_
  refine wpAny_loadName_local (v := .ref x) rfl rfl hns₁ rfl ?_
  refine ks_wpAny_isType_cls hC₁ rfl ⟨rfl, ?_⟩
  refine ks_wpAny_call_super hC₁ rfl hx₁ rfl (fun c e => by cases e) (looks_mroIn X₁ (mro_self hcl rfl)) (fun h₂ hso k₂ => ?_)
  have X₂ : K.In h₂ := X₁.keeps k₂
  have hx₂ := k₂ _ _ hx₁
  obtain ⟨of, hof, hofc⟩ : ∃ of, h₂.get? fI = some of ∧ of.cls = .type "function" := by
    have ht' : (K.lookup fI).map (·.cls) = some (.type "function") := J.tI
    cases z : K.lookup fI with
    | none => rw [z] at ht'; cases ht'
    | some of => rw [z] at ht'; exact ⟨of, X₂ _ _ z, Option.some.inj ht'⟩
  refine ks_wpAny_getMethod_super hso (looks_opaque X₂ Bt.any) (l₀ := .ref C :: .ref D :: veTail) (fun A Q E s k q => wpAny_bind ((looks_clsIn X₂ hcl) A _ E s k (wpAny_pure q))) (drop_self _ _) X₂ J.al hof hofc hxC (by decide) ?_
  have k₃ : ∀ b o, h₂.get? b = some o → (h₂.push (methodObj (.ref fI) (.ref x))).get? b = some o := fun b o e => Heap.get?_push_of_some _ e
  have hu : (h₂.push (methodObj (.ref fI) (.ref x))).get? h₂.objs.size = some (methodObj (.ref fI) (.ref x)) := Heap.get?_push_at rfl rfl
  have hns₃ := (hns₁.keeps k₂).keeps k₃
  have X₃ : K.In (h₂.push (methodObj (.ref fI) (.ref x))) := X₂.keeps k₃
  refine callWith_N (q := h₂.objs.size) (self := .ref x) J.fI ?_
  refine spliced_more ?_
  refine ksLd (v := v) hns₃ rfl ?_
  refine spliced_none ⟨⟨hu, X₃⟩, ?_⟩
  have k03 : ∀ b o, hp.get? b = some o → (h₂.push (methodObj (.ref fI) (.ref x))).get? b = some o := fun b o e => k₃ b o (k₂ b o (k₁ b o e))
  refine wpAny_call (method_call hu ?_)
  refine we_init (s := ⟨_, g, d, _, os⟩) Bt T X₃ (hlim.keeps k03) (G.keeps k03) ⟨mb, hbn.keeps k03, hbm⟩ (k03 _ _ hx) hnx ?_ fun h₄ tk₄ dx t1 ⟨k₄, hx₄, dn, dne, hns⟩ => ?_
  · show _ < recursionLimit
    first
      | (show A.depth + 1 < recursionLimit; omega)
      | (show A.depth + 2 < recursionLimit; omega)
      | (simp only [Around.deeper]; omega)
  have k04 : ∀ b o, b ≠ x → hp.get? b = some o → h₄.get? b = some o := fun b o hb e => k₄ b o hb (k03 b o e)
  have X₄ : K.In h₄ := kept_but X hnx k04
  have hns₄ : h₄.Ns hp.objs.size (fun y => List.lookup y [(PySem.Str.ofString "self", Value.ref x), (PySem.Str.ofString "count", v)].reverse) := by
    obtain ⟨oL, es, ep, hL, r⟩ := hns₃
    exact ⟨oL, es, ep, k₄ _ _ hxL hL, r⟩
  -- self.count = count
  refine ks_wpAt_execs_cons (_root_.PySem.wpAt_of_wpAny (plainObj_wpAny_Assign_Attribute ?_))
  refine ksLd (v := v) hns₄ rfl (ksLd (v := .ref x) hns₄ rfl ?_)
  have hw : Within (fun y => if y = "given" then some v else none) ["given"] := Within.cons "given" v Within.nil
  obtain ⟨oD, esD, epD, hoD, hdD, _⟩ := hns.count hw
  refine set_plain X₄ (ox := { cls := .ref C, dict := some dx, data := .fields #[.ref t1, .none, .none, .none, .bool false, .none] }) (od := some oD) ⟨hx₄, rfl, rfl, hoD⟩ T.sa ?_
  refine PySem.OEX.osa_old X₄ hx₄ hns hw (by decide) hcl (refs_two C D) rfl J.noN (fun h₅ tk₅ k₅ hn₅ => ?_)
  have dbig : hp.objs.size ≤ dx := Nat.le_trans (by
    obtain ⟨oL, es, ep, hL, r⟩ := hns₃
    exact Nat.le_of_lt (Heap.lt_size hL)) dn
  refine _root_.PySem.wpAt_of_wpAny (wpAny_execs_nil (hq h₅ tk₅ dx t1 ⟨fun b o hb e => k₅ b o (Nat.ne_of_lt (Nat.lt_of_lt_of_le (Heap.lt_size e) dbig)) (k04 b o hb e), k₅ _ _ dne.symm hx₄, dbig, dne, hn₅⟩))
theorem own_made {nm : Str} (Bt : BaseTxt prog K mg D fI) (T : ClsTxt K mg nm D fJ C) (J : OwnTxt prog K qn D fI C fJ) {v : Value} (X : K.In s.heap) (hlim : s.heap.NoLimit) (G : s.heap.Ns mainGlobals mg) (GB : ∃ mb, s.heap.Ns builtinsNs mb ∧ ∀ x : Str, x ≠ "__name__" → mb x = bootBuiltins x) (hroom : A.depth + 4 < recursionLimit)
    (hq : ∀ h' tk e d, OwnMade2 s.heap h' e C d v → R (.ok (.ret (.ref e))) { s with heap := h', toks := tk }) :
    codeAny (model prog w) A (.call (.ref C) ⟨[v], []⟩) R s := by
  obtain ⟨nm', q, N, bs, sn, sub, ab, col, dd, k0, k1, k2, k3, k5, hC⟩ := T.cls
  obtain ⟨hp, g, dr, tk, os⟩ := s
  have k : ∀ b o, hp.get? b = some o → ((hp.push (kdv_tup [v])).push (excO C hp.objs.size)).get? b = some o := fun b o e => Heap.get?_push_of_some _ (Heap.get?_push_of_some _ e)
  have hget : ((hp.push (kdv_tup [v])).push (excO C hp.objs.size)).get? (hp.objs.size + 1) = some (excO C hp.objs.size) := by heap_get
  have hnx : K.lookup (hp.objs.size + 1) = none := by
    cases e : K.lookup (hp.objs.size + 1) with
    | none => rfl
    | some o =>
      have z : hp.get? (hp.objs.size + 1) = some o := X _ _ e
      exact absurd (Nat.lt_of_succ_lt (Heap.lt_size z)) (Nat.lt_irrefl _)
  refine call_own F.excBase_ValueError (fun X => refsVE_contains X _ (refs D)) (X _ _ hC) (looks_findIn X T.iC) (fun self => bind_fn X self T.tI) (one_size v) ?_
  obtain ⟨mb, hb1, hb2⟩ := GB
  refine own_init (s := ⟨(hp.push (kdv_tup [v])).push (excO C hp.objs.size), g, dr, tk, os⟩) Bt T J (X.keeps k) (hlim.keeps k) (G.keeps k) ⟨mb, hb1.keeps k, hb2⟩ hget hnx ?_ fun h' tk' dx t1 ⟨k', hx, dn, dne, hns⟩ => ?_
  · show A.depth + 1 + 3 < recursionLimit
    exact hroom
  · have old : ∀ b o, hp.get? b = some o → h'.get? b = some o := fun b o e => k' b o (Nat.ne_of_lt (Nat.lt_succ_of_lt (Heap.lt_size e))) (k b o e)
    have z : hp.objs.size + 1 + 1 ≤ dx := by
      first
        | (simpa only [Heap.size_push] using dn)
        | exact dn
        | (have q := dn; rw [Heap.size_push, Heap.size_push] at q; exact q)
    exact ⟨rfl, hq h' tk' (hp.objs.size + 1) dx ⟨old, Nat.le_succ _, ⟨_, _, hx, rfl, rfl, rfl, rfl⟩, Nat.le_trans (Nat.le_trans (Nat.le_succ _) (Nat.le_succ _)) z, dne, hns⟩⟩
end
end WrX
end PySem
namespace L2
open PySem PySem.Spec PyProof.Rows
theorem relO_two {v : V} {v' : Value} (r : RelV v v') (f : Str) : RelO (List.lookup f [(("count" : Str), v), (("given" : Str), v)]) (if f = "count" then some v' else if f = "given" then some v' else none) := by
  by_cases h1 : f = "count"
  · subst h1
    rw [if_pos rfl]
    have q : List.lookup ("count" : Str) [(("count" : Str), v), (("given" : Str), v)] = some v := by simp [List.lookup]
    rw [q]
    exact r
  · rw [if_neg h1]
    have qw : (f == ("count" : Str)) = false := by simpa using h1
    have q2 : List.lookup f [(("count" : Str), v), (("given" : Str), v)] = List.lookup f [(("given" : Str), v)] := by rw [List.lookup_cons, qw]
    rw [q2]
    exact relO_giv r f
section
variable {X : Cx} {D C fI fJ : Addr} {nm qn : Str}
/-- C(e), e in two fields -/
def tMkN (C : Addr) (ta : TA) : St → Hp → XK → Prop := fun σ H Q => ta σ H fun vs H1 => ∃ v, vs = [v] ∧ ∀ d, H1 d = none → Q (.ref C) (some d) (upd H1 d (.xd [(("count" : Str), v), (("given" : Str), v)]))
theorem pmk_ownN {a : Expr} {ta : TA} {p pos : Pos} {k : Nat} (hk : 4 ≤ k) (Bt : PySem.WrX.BaseTxt X.prog X.K X.mg D fI) (T : PySem.WrX.ClsTxt X.K X.mg nm D fJ C) (J : PySem.WrX.OwnTxt X.prog X.K qn D fI C fJ) (hr : Room k X.A) (ha : PA X [a] ta) (hg : Gl X nm := by rfl) (hdb : (nm == ("__debug__" : Str)) = false := by decide)
    (he : starEach (a :: []) X.env = (false, eval a X.env) :: starEach [] X.env := by rfl) (hpl : (backTo pos (starEach [] X.env)).any (·.1) = false := by rfl) :
    PMk X (.Call (.Name nm p) [a] [] pos) (tMkN C ta) := by
  intro pins s σ H Q I h
  refine wpAny_Call_Name_kw (ld_glob I hg T.gC ?_ hdb)
  refine PySem.W.callWith_K (h₀ := X.base) I.ok.mod.kin T.kC (thn (ha.run pos pins s σ H _ I h) fun us s1 hh => ?_) he hpl
  obtain ⟨vs, H1, I1, r1, v, ev, q1⟩ := hh
  subst ev
  refine ⟨I1.kIn, ?_⟩
  cases r1 with
  | cons rv rn =>
    rename_i v' us'
    cases rn
    show wpAny _ _ (call (.ref C) [v']) _ _ _
    have hlim := I1.nolimit
    obtain ⟨mb, hb1, hb2⟩ := I1.mod.blt
    have hG := I1.mod.glob.keeps I1.bk
    have hB := hb1.keeps I1.bk
    have hK := I1.kIn
    obtain ⟨hp, g, dr, tk, os⟩ := s1
    refine wpAny_call (PySem.WrX.own_made Bt T J hK hlim hG ⟨mb, hB, hb2⟩ (by have := hr.dp; omega) fun h' tk' e d M => ?_)
    show MkP X pins σ Q (.ref e) ⟨h', g, dr, tk', os⟩
    obtain ⟨oe, fv, hoe, hc, hd, hdat, h1⟩ := M.obj
    have hns := M.ns
    obtain ⟨G', g1, g2⟩ := restrict h' fun b => decide (b ≠ e)
    have gk : ∀ b, b ≠ e → G'.get? b = h'.get? b := fun b hb => g1 b (decide_eq_true hb)
    have ge : G'.get? e = none := g2 e (by simp)
    have old : ∀ b o, hp.get? b = some o → G'.get? b = some o := fun b o q => (gk b (Nat.ne_of_lt (Nat.lt_of_lt_of_le (Heap.lt_size q) M.new))).trans (M.keep b o q)
    have ob : ObjOk X.prog X.w (upd H1 d (.xd [(("count" : Str), v), (("given" : Str), v)])) G' d (.xd [(("count" : Str), v), (("given" : Str), v)]) :=
      ⟨_, hns.at (fun o q => (gk d M.dne).trans q), fun f => relO_two rv f⟩
    have J : Inv X pins σ (upd H1 d (.xd [(("count" : Str), v), (("given" : Str), v)])) ⟨G', g, dr, tk', os⟩ := I1.laid (t' := tk') old M.dbig ob
    refine ⟨e, oe, fv, ⟨G', g, dr, tk', os⟩, _, .ref C, some d, rfl, J, fun b o q => ?_, ge, hoe, ⟨hc, hd⟩, hdat, h1, ?_, rfl, I1.bare, raises_own T.exC T.tyC, q1 d (I1.hok.fresh M.dbig)⟩
    · by_cases hb : b = e
      · have q' : G'.get? b = some o := q
        rw [hb, ge] at q'; cases q'
      · exact (gk b hb).symm.trans q
    · rw [upd_ne (Ne.symm M.dne)]
      exact I1.hok.fresh M.new
/-- raise C(e) -/
def tRaiseN (C : Addr) (W : WX) (ta : TA) : TS := fun _ σ H => tMkN C ta σ H fun cls d H' => W cls d σ H'
theorem ps_raiseN {a : Expr} {ta : TA} {W : WX} {p pos pos2 : Pos} {k : Nat} (hk : 4 ≤ k) (hc : X.calm = true) (Bt : PySem.WrX.BaseTxt X.prog X.K X.mg D fI) (T : PySem.WrX.ClsTxt X.K X.mg nm D fJ C) (J : PySem.WrX.OwnTxt X.prog X.K qn D fI C fJ) (hr : Room k X.A) (tk : Takes X W) (ha : PA X [a] ta) (hg : Gl X nm := by rfl) (hdb : (nm == ("__debug__" : Str)) = false := by decide)
    (he : starEach (a :: []) X.env = (false, eval a X.env) :: starEach [] X.env := by rfl) (hpl : (backTo pos (starEach [] X.env)).any (·.1) = false := by rfl) :
    PS X (.Raise (some (.Call (.Name nm p) [a] [] pos)) none pos2) (tRaiseN C W ta) := ps_raise hc tk (pmk_ownN hk Bt T J hr ha hg hdb he hpl)
end
end L2

end
section
set_option Elab.async false
set_option linter.all false
set_option maxRecDepth 100000
set_option maxHeartbeats 1000000
/-! EwO: errors with further fields, results that are new lists, by types; a walk over a list or a tuple; worlds with one list of one's own. -/
namespace L2
open PySem PySem.Spec PyProof.Rows
def iOr (a b : TI) : TI := fun σ H R => a σ H R ∨ b σ H R
theorem PI.or {X : Cx} {tg l : Expr} {a b : TI} (h : PI X tg l a) (k : PI X tg l b) : PI X tg l (iOr a b) := ⟨fun pins s σ H R I q => q.elim (h.run pins s σ H R I) (k.run pins s σ H R I)⟩
/-- for x in l: a list, a tuple -/
def iSeq (K : PySem.W.Frag) (tl : TE) : TI := iOr (iList K tl) (iTup K tl)
theorem k_iseq {X : Cx} {K : PySem.W.Frag} (hK : X.K = K) {tg l : Expr} {tl : TE} (hl : PE X l tl) : PI X tg l (iSeq K tl) := hK ▸ (pi_list hl).or (pi_tup hl)
section
variable {X : Cx} {o e : Expr} {to : TE} {t : TA} {apos cpos : Pos}
theorem k_append {K : PySem.W.Frag} (hK : X.K = K) (ho : PE X o to) (ha : PA X [e] t) (hbase : attributeBase o "append" X.env (eval o X.env) = eval o X.env := by rfl)
    (hfew : ((backTo cpos (starEach [e] X.env)).all (fun x => !x.1) && (backToKw cpos (keywordEach [] X.env)).all (fun x => x.1.isSome) && decide ([e].length + ([] : List Keyword).length + (if ([] : List Keyword).isEmpty then 0 else 1) < 30)) = true := by rfl)
    (hline : (apos.endLine == cpos.line) = true := by rfl) (hs : starEach [e] X.env = (false, eval e X.env) :: starEach [] X.env := by rfl) (hplain : (backTo cpos (starEach [] X.env)).any (·.1) = false := by rfl) :
    PE X (.Call (.Attribute o "append" apos) [e] [] cpos) (tBM K "list" rAppend to t) := hK ▸ pe_bm PySem.F.plainAttrs_list PySem.F.slot_list_append PySem.F.type_list_append mt_append ho ha hbase hfew hline hs hplain
end
end L2
namespace Ew
open PySem PySem.Spec PyProof.Rows L2
/-! ### errors and results -/
abbrev Fl := V → List (Str × V)
def flG : Fl := fun v => [(("given" : Str), v)]
def flC : Fl := fun v => [(("count" : Str), v), (("given" : Str), v)]
/-- an error of the class c that keeps a value of the type T -/
structure Bad where
  c : Addr
  fl : Fl
  T : Typ
def HeldF (W : Wd) (fl : Fl) (T : Typ) (dd : Addr) (H : Hp) : Prop := ∃ v, H dd = some (.xd (fl v)) ∧ T.at W v H
/-- a result: M, B, the heap at the call, the value, the heap behind -/
structure Res where
  p : (Addr → Prop) → (Addr → Prop) → Hp → V → Hp → Prop
  back : ∀ {M B : Addr → Prop} {H0 H1 H : Hp} {v : V}, Ex B H0 H1 → p M B H1 v H → p M B H0 v H
def rT (T : Typ) : Res := ⟨fun M B _ v H => T.p M B v H, fun _ h => h⟩
/-- a new list -/
def rNew (Ts : List Typ) : Res := ⟨fun M B H0 v H => ∃ p xs, v = .ref p ∧ H0 p = none ∧ H p = some (.lst xs) ∧ TysV M B Ts xs H, fun e ⟨p, xs, h1, h2, h3⟩ => ⟨p, xs, h1, e.free h2, h3⟩⟩
/-- [tag, val], new; where fr says so val is a new list, too -/
def rTold (K : PySem.W.Frag) (tag : Str) (val : PyData) (fr : Prop) : Res := ⟨fun M B H0 v H => ∃ q u, v = .ref q ∧ H0 q = none ∧ H q = some (.lst [.str tag, u]) ∧ Rp M K H u val ∧ (fr → ∃ p, u = .ref p ∧ H0 p = none ∧ p ≠ q),
  fun e ⟨q, u, h1, h2, h3, h4, h5⟩ => ⟨q, u, h1, e.free h2, h3, h4, fun z => let ⟨p, k1, k2, k3⟩ := h5 z; ⟨p, k1, e.free k2, k3⟩⟩⟩
def spX {α : Type} (C : α → Prop) (A : α → List Typ) (R : α → Res) (bad : α → Option Bad) : Sp := fun vs H Q E => ∃ (M B : Addr → Prop) (x : α), (∀ a, B a → M a) ∧ (∀ a, B a → BoxAt H a) ∧ (∀ a, M a → H a ≠ none) ∧ C x ∧ TysV M B (A x) vs H ∧
  (bad x = none → ∀ v H', Ex B H H' → (R x).p M B H v H' → Q v H') ∧ (∀ b, bad x = some b → ∀ dd v H', Ex B H H' → b.T.p M B v H' → H' dd = some (.xd (b.fl v)) → E (.ref b.c) (some dd) H')
/-- .. that never raises -/
def spR {α : Type} (C : α → Prop) (A : α → List Typ) (R : α → Res) : Sp := fun vs H Q _ => ∃ (M B : Addr → Prop) (x : α), (∀ a, B a → M a) ∧ (∀ a, B a → BoxAt H a) ∧ (∀ a, M a → H a ≠ none) ∧ C x ∧ TysV M B (A x) vs H ∧
  ∀ v H', Ex B H H' → (R x).p M B H v H' → Q v H'
/-- an expression: what is known of its value behind the heap at its call -/
def TyR (W : Wd) (Γ : Gam) (te : TE) (P : Hp → V → Hp → Prop) : Prop := ∀ σ H, Cxt W H → EnvW W Γ σ H → ∀ Q : VK, (∀ v H0 H1, Ex W.B H H0 → Ex W.B H0 H1 → P H0 v H1 → Q v H1) → te σ H Q
section
variable {W : Wd} {Γ Γ' : Gam} {K : PySem.W.Frag} {tl : TA} {te ta tb : TE} {tt : TT} {T U : Typ} {α : Type} {C : α → Prop} {A : α → List Typ} {R : α → Res} {bad : α → Option Bad} {Wx : WX} {N : Sx → Hp → Prop} {Rr : V → Hp → Prop} {Bk Ct : Sx → Hp → Prop} {c : Addr} {φ : Prop} {P P' : Hp → V → Hp → Prop} {Ts : List Typ} {i : Nat}
def ErX (W : Wd) (Γ : Gam) (Wx : WX) (b : Bad) : Prop := ∀ dd σ H, nE W Γ σ H → HeldF W b.fl b.T dd H → Wx (.ref b.c) (some dd) σ H
theorem tyr_callX (x : α) (hC : C x) (h : TyA W Γ tl (A x)) (hb : ∀ b, bad x = some b → ErX W Γ Wx b) : TyR W Γ (tCallS (spX C A R bad) (WE Wx) tl) (fun H0 v H => bad x = none ∧ (R x).p W.M W.B H0 v H) := fun σ H c g Q q =>
  h σ H c g _ fun vs H1 e1 hv => ⟨W.M, W.B, x, W.sub, (c.up e1).box, (c.up e1).al, hC, hv, fun k v H2 e2 h2 => q v H1 H2 e1 e2 ⟨k, h2⟩,
    fun b k dd v H' e2 h2 h3 => hb b k dd σ H' ⟨c.up (e1.trans e2), g.up (e1.trans e2).toW⟩ ⟨v, h3, h2⟩⟩
theorem tyr_callKX {gV : List V → List V} {Us : List Typ} (x : α) (hC : C x) (h : TyA W Γ tl Us) (hg : ∀ {vs H}, TysV W.M W.B Us vs H → TysV W.M W.B (A x) (gV vs) H) (hb : ∀ b, bad x = some b → ErX W Γ Wx b) :
    TyR W Γ (tCallKS (spX C A R bad) gV (WE Wx) tl) (fun H0 v H => bad x = none ∧ (R x).p W.M W.B H0 v H) := fun σ H c g Q q =>
  h σ H c g _ fun vs H1 e1 hv => ⟨W.M, W.B, x, W.sub, (c.up e1).box, (c.up e1).al, hC, hg hv, fun k v H2 e2 h2 => q v H1 H2 e1 e2 ⟨k, h2⟩,
    fun b k dd v H' e2 h2 h3 => hb b k dd σ H' ⟨c.up (e1.trans e2), g.up (e1.trans e2).toW⟩ ⟨v, h3, h2⟩⟩
theorem tyr_callR {E : XK} (x : α) (hC : C x) (h : TyA W Γ tl (A x)) : TyR W Γ (tCall (spR C A R) [] E tl) ((R x).p W.M W.B) := fun σ H c g Q q =>
  h σ H c g _ fun vs H1 e1 hv => ⟨W.M, W.B, x, W.sub, (c.up e1).box, (c.up e1).al, hC, by rw [List.append_nil]; exact hv, fun v H2 e2 h2 => q v H1 H2 e1 e2 h2⟩
theorem TyR.sub (h : TyR W Γ te P) (k : ∀ H0 v H, P H0 v H → P' H0 v H) : TyR W Γ te P' := fun σ H c g Q q => h σ H c g Q fun v H0 H1 e0 e1 z => q v H0 H1 e0 e1 (k H0 v H1 z)
theorem TyR.ty (h : TyR W Γ te P) (k : ∀ H0 v H, Cxt W H0 → Ex W.B H0 H → P H0 v H → T.at W v H) : Ty W Γ te T := fun σ H c g Q q => h σ H c g Q fun v H0 H1 e0 e1 z => q v H1 (e0.trans e1) (k H0 v H1 (c.up e0) e1 z)
theorem TyR.tyl (h : TyR W Γ te P) (k : ∀ H0 v H, P H0 v H → (rNew Ts).p W.M W.B H0 v H) : TyL W Γ te Ts := fun σ H c g Q q => h σ H c g Q fun v H0 H1 e0 e1 z => by
  obtain ⟨p, xs, rfl, h2, h3, h4⟩ := k H0 v H1 z
  exact q p xs H1 (e0.trans e1) (e0.free h2) h3 h4
theorem Ty.tyr (h : Ty W Γ te T) : TyR W Γ te ((rT T).p W.M W.B) := fun σ H c g Q q => h σ H c g Q fun v H1 e z => q v H H1 (Ex.refl _ _) e z
theorem TyL.tyr (h : TyL W Γ te Ts) : TyR W Γ te ((rNew Ts).p W.M W.B) := fun σ H c g Q q => h σ H c g Q fun p xs H1 e h1 h2 h3 => q _ H H1 (Ex.refl _ _) e ⟨p, xs, rfl, h1, h2, h3⟩
theorem tyr_if {φ : Bool → Prop} (hc : Tt W Γ tt φ) (h1 : φ true → TyR W Γ ta P) (h2 : φ false → TyR W Γ tb P) : TyR W Γ (tIf tt ta tb) P := fun σ H c g Q q =>
  hc σ H c g _ fun b H1 e1 hb => by
    cases b with
    | true => rw [if_pos rfl]; exact h1 hb σ H1 (c.up e1) (g.up e1.toW) Q fun v H0 H2 e0 e2 h => q v H0 H2 (e1.trans e0) e2 h
    | false => rw [if_neg Bool.false_ne_true]; exact h2 hb σ H1 (c.up e1) (g.up e1.toW) Q fun v H0 H2 e0 e2 h => q v H0 H2 (e1.trans e0) e2 h
theorem tyl_if {φ : Bool → Prop} (hc : Tt W Γ tt φ) (h1 : φ true → TyL W Γ ta Ts) (h2 : φ false → TyL W Γ tb Ts) : TyL W Γ (tIf tt ta tb) Ts := (tyr_if hc (fun z => (h1 z).tyr) fun z => (h2 z).tyr).tyl fun _ _ _ z => z
/-- [tag, e] -/
theorem tyr_told {tag : Str} {val : PyData} {fr : Prop} (h : TyR W Γ te P) (k : ∀ H0 v H, P H0 v H → Rp W.M K H v val ∧ (fr → ∃ p o, v = .ref p ∧ H0 p = none ∧ H p = some o)) : TyR W Γ (tLst (tCons (tC (.str tag)) (tCons te tNil))) ((rTold K tag val fr).p W.M W.B) := fun σ H c g Q q =>
  h σ H c g _ fun v H0 H1 e0 e1 z => by
    obtain ⟨k1, k2⟩ := k H0 v H1 z
    refine ⟨by show 2 ≤ sizeLine; exact sz_le (by decide), fun p hp => q _ H0 _ e0 (e1.trans (Ex.new hp)) ⟨p, v, rfl, e1.free hp, upd_same, Rp.up (Ex.new (B := W.B) hp).toW k1, fun f => ?_⟩⟩
    obtain ⟨a, o, rfl, k3, k4⟩ := k2 f
    exact ⟨a, rfl, k3, ne_of_none k4 hp⟩
theorem Res.tdata {tag : Str} {val : PyData} {fr : Prop} {H0 H : Hp} {v : V} (c : Cxt W H0) (h : (rTold K tag val fr).p W.M W.B H0 v H) : (dt K (.list [.str tag, val])).at W v H := by
  obtain ⟨q, u, rfl, h2, h3, h4, _⟩ := h
  exact .lst h3 (c.nm h2) (.cons (.str _) (.cons h4 .nil))
/-- what a def hands back -/
def rX (W : Wd) (φ : Prop) (R : Res) : V → Hp → Prop := fun v H => φ ∧ Ex W.B W.H0 H ∧ R.p W.M W.B W.H0 v H
theorem tys_retX {R : Res} (hφ : φ) (h : TyR W Γ te (R.p W.M W.B)) : TyS W Γ (tRet te) noN (rX W φ R) Bk Ct := fun σ H c g D _ dr _ _ => h σ H c g _ fun v H0 H1 e0 e1 z => dr v H1 ⟨hφ, (c.up (e0.trans e1)).ex, R.back (c.up e0).ex z⟩
theorem tys_retXG {R : Res} (h : TyR W Γ te P) (k : ∀ H0 v H, P H0 v H → φ ∧ R.p W.M W.B H0 v H) : TyS W Γ (tRet te) noN (rX W φ R) Bk Ct := fun σ H c g D _ dr _ _ => h σ H c g _ fun v H0 H1 e0 e1 z => dr v H1 ⟨(k _ _ _ z).1, (c.up (e0.trans e1)).ex, R.back (c.up e0).ex (k _ _ _ z).2⟩
theorem tys_dropR (h : TyR W Γ te P) (k : ∀ H0 v H, P H0 v H → φ) : TyS W Γ (tDrop te) (fun σ H => φ ∧ nE W Γ σ H) Rr Bk Ct := fun σ H c g D dn _ _ _ => h σ H c g _ fun v H0 H1 e0 e1 z => dn σ H1 (e0.trans e1).toW ⟨k _ _ _ z, c.up (e0.trans e1), g.up (e0.trans e1).toW⟩
theorem tys_raiseG (h : Ty W Γ te T) (k : ErX W Γ Wx ⟨c, flG, T⟩) : TyS W Γ (tRaiseW c Wx (tCons te tNil)) noN Rr Bk Ct := fun σ H cx g D _ _ _ _ =>
  h σ H cx g _ fun v H1 e hv => ⟨v, rfl, fun d hd => k d σ _ ⟨cx.up (e.trans (Ex.new hd)), g.up (e.trans (Ex.new hd)).toW⟩ ⟨v, upd_same, T.up (Ex.new (B := W.B) hd).toW hv⟩⟩
theorem tys_raiseC (h : Ty W Γ te T) (k : ErX W Γ Wx ⟨c, flC, T⟩) : TyS W Γ (tRaiseN c Wx (tCons te tNil)) noN Rr Bk Ct := fun σ H cx g D _ _ _ _ =>
  h σ H cx g _ fun v H1 e hv => ⟨v, rfl, fun d hd => k d σ _ ⟨cx.up (e.trans (Ex.new hd)), g.up (e.trans (Ex.new hd)).toW⟩ ⟨v, upd_same, T.up (Ex.new (B := W.B) hd).toW hv⟩⟩
/-- the caught error's name -/
def erF (dd a : Addr) (fl : Fl) (T : Typ) : Typ := ⟨fun M B v H => v = .ref a ∧ ∃ u, H dd = some (.xd (fl u)) ∧ T.p M B u H, fun e ⟨h, u, h1, h2⟩ => ⟨h, u, e.keepT h1 (fun _ z => nomatch z), T.up e h2⟩, fun n ⟨h, u, h1, h2⟩ => ⟨h, u, h1, T.weak n h2⟩, fun ⟨h, u, h1, h2⟩ => ⟨h, u, h1, T.drop h2⟩⟩
theorem ty_field {a dd : Addr} {cls : Value} {d : Option Addr} {fl : Fl} {n : Str} (hn : ∀ u, (fl u).lookup n = some u) (hc : cls = .ref c) (hd : d = some dd) (h : Ty W Γ te (erF dd a fl T)) : Ty W Γ (tXf a cls d c n te) T := fun σ H cx g Q q =>
  h σ H cx g _ fun v H1 e ⟨e1, u, h1, h2⟩ => ⟨e1, hc, dd, _, u, hd, h1, hn u, q u H1 e h2⟩
theorem flG_given : ∀ u, (flG u).lookup ("given" : Str) = some u := fun u => by simp [flG, List.lookup]
theorem flC_count : ∀ u, (flC u).lookup ("count" : Str) = some u := fun u => by simp [flC, List.lookup]
theorem hdl_hitX {Wout : WX} {l : List Hdl} {D : Ends} {i : Nat} {ts : Addr → Value → Option Addr → TS} {fl : Fl} {dd : Addr} {σ : Sx} {H : Hp} {cc : Value} (hc : PySem.W.exmOne K (.ref c) cc = some true) (n : nE W Γ σ H) (hd : HeldF W fl T dd H)
    (dr : ∀ v H', Rr v H' → D.rt v H') (hs : ∀ a, TyS W (Γ.set i (some (erF dd a fl T))) (ts a (.ref c) (some dd)) noN Rr noN noN) : wManyA K Wout D ((cc, i, ts) :: l) (.ref c) (some dd) σ H :=
  ⟨true, hc, fun _ a ha => by
    obtain ⟨u, h1, h2⟩ := hd
    exact hs a _ H n.1 (EnvL.set (T := erF dd a fl T) ⟨rfl, u, h1, h2⟩ n.2) _ (fun _ _ _ z => z.elim) dr (fun _ _ _ z => z.elim) (fun _ _ _ z => z.elim), fun z => Bool.noConfusion z⟩
theorem tyi_seqT (h : Ty W Γ te (tupT K Ts)) : TyI W Γ (iSeq K te) Ts := fun σ H c g R q => .inr (tyi_tup h σ H c g R q)
theorem tyi_seqL (h : Ty W Γ te (lstT Ts)) : TyI W Γ (iSeq K te) Ts := fun σ H c g R q => .inl (tyi_lst h σ H c g R q)
end
section
variable {P : Program} {w : World} {K : PySem.W.Frag} {mg : Str → Option Value} {base : Heap}
theorem fn_tyX {x qual : Str} {st : Stmt} {f : Addr} {fd : FuncData} {N ps : List Str} {k : Nat} {α : Type} {C : α → Prop} {A : α → List Typ} {R : α → Res} {bad : α → Option Bad} (F : Fun K x qual st f fd) (S : FnScope N ps (defScope st))
    (len : ∀ x, C x → (A x).length = ps.length)
    (hbody : ∀ (cdv : Value) (Ar : Around) (outer : List Env) (s : Shared) (H : Hp) (E : XK), Room k (Ar.deeper (envOfC qual (defScope st) s.heap.objs.size f cdv)) →
      ∃ t, PSs (cxOf (L2.CX P w) P w K mg base N qual (defScope st) f cdv Ar outer s H E) (defBody st) t ∧ ∀ (W : Wd) (x : α), C x → (∀ Γ b, bad x = some b → ErX W Γ (fun cls d _ H => E cls d H) b) →
        TyS W ((A x).map some ++ List.replicate (N.length - ps.length) none) t (fun _ H' => rX W (bad x = none) (R x) .non H') (rX W (bad x = none) (R x)) noN noN) :
    FnOk P w K mg base (L2.CX P w) (k + 1) f fd ps (spX C A R bad) := by
  refine F.okX S (fun vs H Q E h => ?_) fun cdv Ar outer s H vs Q E hr h => ?_
  · obtain ⟨M, B, x, _, _, _, hC, h, _⟩ := h
    rw [h.length, len x hC]
  · obtain ⟨M, B, x, hs, hb, ha, hC, h, q, qe⟩ := h
    obtain ⟨t, ht, k⟩ := hbody cdv Ar outer s H E hr
    refine ⟨t, ht, k (Wd.base M B H hs) x hC (fun Γ b hb dd σ H' n hl => ?_) (L2.start N vs) H ⟨hb, ha, Ex.refl B H, True.intro⟩ ?_ _ (fun σ' H' _ n => q n.1 _ _ n.2.1 n.2.2) (fun v H' n => q n.1 _ _ n.2.1 n.2.2) (fun _ _ _ z => z.elim) (fun _ _ _ z => z.elim)⟩
    · obtain ⟨v, h1, h2⟩ := hl
      exact qe b hb dd v H' n.1.ex h2 h1
    · unfold L2.start
      have e : vs.length = ps.length := by rw [h.length, len x hC]
      rw [e]
      exact env_start h _
theorem fn_tyR {x qual : Str} {st : Stmt} {f : Addr} {fd : FuncData} {N ps : List Str} {k : Nat} {α : Type} {C : α → Prop} {A : α → List Typ} {R : α → Res} (F : Fun K x qual st f fd) (S : FnScope N ps (defScope st))
    (len : ∀ x, C x → (A x).length = ps.length)
    (hbody : ∀ (cdv : Value) (Ar : Around) (outer : List Env) (s : Shared) (H : Hp) (E : XK), Room k (Ar.deeper (envOfC qual (defScope st) s.heap.objs.size f cdv)) →
      ∃ t, PSs (cxOf (L2.CX P w) P w K mg base N qual (defScope st) f cdv Ar outer s H E).nox (defBody st) t ∧ ∀ (W : Wd) (x : α), C x → TyS W ((A x).map some ++ List.replicate (N.length - ps.length) none) t (fun _ H' => rX W True (R x) .non H') (rX W True (R x)) noN noN) :
    FnOk P w K mg base (L2.CX P w) (k + 1) f fd ps (spR C A R) := by
  refine okN F S (fun vs H Q E h => ?_) fun cdv Ar outer s H vs Q E hr h => ?_
  · obtain ⟨M, B, x, _, _, _, hC, h, _⟩ := h
    rw [h.length, len x hC]
  · obtain ⟨M, B, x, hs, hb, ha, hC, h, q⟩ := h
    obtain ⟨t, ht, k⟩ := hbody cdv Ar outer s H E hr
    refine ⟨t, ht, k (Wd.base M B H hs) x hC (L2.start N vs) H ⟨hb, ha, Ex.refl B H, True.intro⟩ ?_ _ (fun σ' H' _ n => q _ _ n.2.1 n.2.2) (fun v H' n => q _ _ n.2.1 n.2.2) (fun _ _ _ z => z.elim) (fun _ _ _ z => z.elim)⟩
    unfold L2.start
    have e : vs.length = ps.length := by rw [h.length, len x hC]
    rw [e]
    exact env_start h _
end
section
variable {W : Wd} {Γ : Gam} {te : TE} {g : TG} {R : V → Hp → Prop} {Bk Ct : Sx → Hp → Prop}
/-- a, b = e: just something is known of e -/
theorem tys_asgX {α : Type} {A : α → Typ} {φ : α → Prop} {Γ' : α → Gam} (h : Ty W Γ te (exT fun x => gd (φ x) (A x))) (hg : ∀ x, TyG W Γ g (A x) (Γ' x)) : TyS W Γ (tAsg te g) (fun σ H => ∃ x : { x // φ x }, nE W (Γ' x.1) σ H) R Bk Ct := fun σ H c e D dn _ _ _ => h σ H c e _ fun v H1 e1 ⟨x, hx, hv⟩ =>
  hg x v σ H1 (c.up e1) (e.up e1.toW) hv _ fun σ' H' e2 g' => dn σ' H' (e1.trans e2).toW ⟨⟨x, hx⟩, c.up (e1.trans e2), g'⟩
end
/-! ### sizes -/
def bd (n : Nat) (v : Int) : Prop := v.natAbs < 2 ^ n
section
variable {a b : Int} {n m : Nat}
theorem bd_log (h : bd n a) : a.natAbs.log2 ≤ n := by
  by_cases z : a.natAbs = 0
  · rw [z]; exact Nat.zero_le _
  · exact Nat.le_of_lt ((Nat.log2_lt z).mpr h)
theorem bd.mono (h : bd n a) (k : n ≤ m) : bd m a := Nat.lt_of_lt_of_le h (Nat.pow_le_pow_right (by decide) k)
theorem bd.mul (h : bd n a) (k : bd m b) : bd (n + m) (a * b) := by
  unfold bd at *
  rw [Int.natAbs_mul, Nat.pow_add]
  exact Nat.mul_lt_mul_of_lt_of_le h (Nat.le_of_lt k) (Nat.lt_of_le_of_lt (Nat.zero_le _) k)
theorem bd.sub (h : bd n a) (k : bd n b) : bd (n + 1) (a - b) := by
  unfold bd at *
  rw [Nat.pow_succ]; omega
theorem bd.add (h : bd n a) (k : bd n b) : bd (n + 1) (a + b) := by
  unfold bd at *
  rw [Nat.pow_succ]; omega
theorem bd.div (h : bd n a) (k : 0 < b) : bd n (a / b) := by
  unfold bd at *
  have := Int.natAbs_ediv_le_natAbs a b
  omega
theorem bd.div_ok (k : 0 < b) (h : bd n b) (hn : n ≤ 8000) : L2.CDivW a b := ⟨k, by have := bd_log h; omega⟩
theorem bd.mul_ok (h : bd n a) (k : bd m b) (hn : n + m ≤ 100000) : L2.CMulW a b := by
  have h1 := bd_log h
  have h2 := bd_log k
  unfold L2.CMulW
  omega
theorem bd.le (h : bd n a) (h0 : 0 ≤ b) (k : b ≤ a) : bd n b := by
  unfold bd at *; omega
end
/-! ### one list of one's own, further -/
section
variable {W : Wd} {Γ Γ' : Gam} {K : PySem.W.Frag} {T U : Typ} {Ts Us : List Typ} {te ta tj : TE} {ts tw : TS} {tt : TT} {i : Nat} {N N' : Sx → Hp → Prop} {R : V → Hp → Prop} {Bk Ct : Sx → Hp → Prop} {D : Addr} {nb : ¬ W.B D} {P : Hp → V → Hp → Prop} {φ : Bool → Prop}
theorem Exm.adM {M B : Addr → Prop} {H H' : Hp} (e : Exm M B H H') : Exm (Ew.ad M D) B H H' := fun a o h => (e a o h).imp id fun ⟨m, r⟩ => ⟨.inl m, r⟩
theorem own_out {H : Hp} (c : Cxt (W.own D nb Ts) H) : Cxt W H := by
  obtain ⟨⟨H1, o1, o2, o3⟩, _⟩ := c.own
  exact ⟨c.box, fun a z => c.al a (.inl z), c.ex, W.kept o3 o1⟩
/-- without the list at D -/
theorem Exm.less {M B : Addr → Prop} {H H1 H2 : Hp} (e : Ex B H H1) (f : Exm (Ew.ad M D) B H1 H2) (s : ∀ a, B a → M a) (hD : H D = none) : Exm M B H H2 := fun a o h => by
  have ne := ne_of_none h hD
  have e' : Exm M B H H1 := e.toM s
  rcases e' a o h with q | ⟨m, ⟨xs, rfl⟩, ⟨ys, q⟩, b⟩
  · rcases f a o q with r | ⟨m, x, y, b⟩
    · exact .inl r
    · exact .inr ⟨m.resolve_right ne, x, y, fun z z2 => b z (by obtain ⟨xs, z3, z4⟩ := z2; rw [h] at z3; cases z3; exact ⟨xs, q, z4⟩)⟩
  · rcases f a _ q with r | ⟨_, _, y, b'⟩
    · exact .inr ⟨m, ⟨xs, rfl⟩, ⟨ys, r⟩, fun z1 z2 => by
        obtain ⟨zs, z3, z4⟩ := b z1 z2
        rw [q] at z3; cases z3
        exact ⟨ys, r, z4⟩⟩
    · exact .inr ⟨m, ⟨xs, rfl⟩, y, fun z1 z2 => b' z1 (b z1 z2)⟩
theorem Tt.back (h : Tt W Γ' tt φ) (k : ∀ σ H, nE (W.own D nb Ts) Γ σ H → EnvW W Γ' σ H) : Tt (W.own D nb Ts) Γ tt φ := fun σ H c g Q q => h σ H (own_out c) (k σ H ⟨c, g⟩) Q q
theorem Ty.back (h : Ty W Γ' te T) (k : ∀ σ H, nE (W.own D nb Ts) Γ σ H → EnvW W Γ' σ H) (t : ∀ v H, T.p W.M W.B v H → U.p (Ew.ad W.M D) W.B v H) : Ty (W.own D nb Ts) Γ te U := fun σ H c g Q q => h σ H (own_out c) (k σ H ⟨c, g⟩) Q fun v H1 e z => q v H1 e (t v H1 z)
theorem TyS.back (h : TyS W Γ' ts N R Bk Ct) (k : ∀ σ H, nE (W.own D nb Ts) Γ σ H → EnvW W Γ' σ H) : TyS (W.own D nb Ts) Γ ts N R Bk Ct := fun σ H c g E dn dr db dc =>
  h σ H (own_out c) (k σ H ⟨c, g⟩) E (fun σ' H' e n => dn σ' H' e.adM n) dr (fun σ' H' e n => db σ' H' e.adM n) fun σ' H' e n => dc σ' H' e.adM n
theorem tys_seqB (h1 : TyS (W.own D nb Ts) Γ ts (nE W Γ') R Bk Ct) (h2 : TyS W Γ' tw N R Bk Ct) : TyS (W.own D nb Ts) Γ (tSeq ts tw) N R Bk Ct := fun σ H c g E dn dr db dc =>
  h1 σ H c g { E with nx := tw E } (fun σ' H' e n => h2 σ' H' n.1 n.2 E (fun σ2 H2 e2 => dn σ2 H2 (e.trans e2.adM)) dr (fun σ2 H2 e2 => db σ2 H2 (e.trans e2.adM)) fun σ2 H2 e2 => dc σ2 H2 (e.trans e2.adM)) dr db dc
/-- x = e, with it comes a new list at D -/
theorem tys_ownR {T : Addr → Typ} (h : TyR W Γ te P) (k : ∀ H0 v H, Cxt W H0 → Ex W.B H0 H → P H0 v H → ∃ p xs, H0 p = none ∧ H p = some (.lst xs) ∧ TysV (Ew.ad W.M p) W.B Ts xs H ∧ (T p).p (Ew.ad W.M p) W.B v H)
    (hb : ∀ D (nb : ¬ W.B D), ¬ W.M D → TyS (W.own D nb Ts) (Γ.set i (some (T D))) tw N R noN noN) : TyS W Γ (tSeq (tAsg te (gName i)) tw) N R Bk Ct := fun σ H c g E dn dr db dc =>
  h σ H c g _ fun v H0 H1 e0 e1 z => by
    obtain ⟨p, xs, h0, h1, h2, h3⟩ := k H0 v H1 (c.up e0) e1 z
    have hp : H p = none := e0.free h0
    have e := e0.trans e1
    have nm : ¬ W.M p := c.nm hp
    have nb : ¬ W.B p := c.nb hp
    have c1 := c.up e
    have c2 : Cxt (W.own p nb Ts) H1 := ⟨c1.box, fun a z => z.elim (c1.al a) (fun w => by rw [w, h1]; intro q; cases q), c1.ex, ⟨H, c.own, hp, e⟩, c.ex.free hp, xs, h1, h2⟩
    have g1 : EnvL (Ew.ad W.M p) W.B Γ σ H1 := (EnvL.weak hp g).up (e.toM fun a h => .inl (W.sub a h))
    exact hb p nb nm _ H1 c2 (EnvL.set (T := T p) h3 g1) E (fun σ' H' e' n => dn σ' H' (Exm.less e e' W.sub hp) n) dr (fun _ _ _ z => z.elim) (fun _ _ _ z => z.elim)
/-- e.append(u), e the own list -/
theorem tys_appendE (he : Ty (W.own D nb Ts) Γ ta (isV (.ref D))) (h : Ty (W.own D nb Ts) Γ te T) (hz : Ts.length < 1000000) : TyS (W.own D nb Ts) Γ (tDrop (tBM K "list" rAppend ta (tCons te tNil))) (nE (W.own D nb (Ts ++ [T])) Γ) R Bk Ct := fun σ H c g E dn dr db dc =>
  he σ H c g _ fun v H1 e1 hv => by
  have hv : v = .ref D := hv
  subst hv
  have c1 := c.up e1
  obtain ⟨_, _, xs0, q0, _⟩ := c1.own
  refine ⟨.inl ⟨rfl, _, SqL.of q0⟩, h σ H1 c1 (g.up e1.toW) _ fun y H2 e hy => ?_⟩
  have c2 := c1.up e
  have e12 := e1.trans e
  obtain ⟨_, _, xs, q1, q2⟩ := c2.own
  have put : Exm (Ew.ad W.M D) W.B H2 (upd H2 D (.lst (xs ++ [y]))) := Exm.put (.inr rfl) nb q1
  have w := own_put (nb := nb) (Ts := Ts) (Us := Ts ++ [T]) (ys := xs ++ [y]) c2 q1 ((q2.append (show TysV (Ew.ad W.M D) W.B [T] [y] H2 from ⟨hy, True.intro⟩)).up put)
  exact ⟨D, xs, y, rfl, rfl, q1, by rw [q2.length]; exact sz_lt hz, dn σ _ (e12.toW.trans w.2) ⟨w.1, (g.up e12.toW).up w.2⟩⟩
theorem TysV.setT {M B : Addr → Prop} {H : Hp} {y : V} (hy : T.p M B y H) : ∀ {Ts : List Typ} {xs : List V} (k : Nat), TysV M B Ts xs H → TysV M B (Ts.set k T) (xs.set k y) H
  | [], [], _, h => h
  | _ :: _, _ :: _, 0, h => ⟨hy, h.2⟩
  | _ :: _, _ :: _, k + 1, h => ⟨h.1, TysV.setT hy k h.2⟩
  | [], _ :: _, _, h => h.elim
  | _ :: _, [], _, h => h.elim
/-- found[k] = e, found the own list -/
theorem tys_put {k : Nat} (hi : Γ[i]? = some (some (isV (.ref D)))) (h : Ty (W.own D nb Ts) Γ te T) (hj : Ty (W.own D nb Ts) Γ tj (dt K (.int (k : Nat)))) (hk : k < Ts.length) : TyS (W.own D nb Ts) Γ (tAsg te (gSub (tVar i) tj rSetL)) (nE (W.own D nb (Ts.set k T)) Γ) R Bk Ct := fun σ H c g E dn dr db dc =>
  h σ H c g _ fun y H1 e1 hy => by
  have c1 := c.up e1
  have g1 := g.up e1.toW
  obtain ⟨v, h1, h2⟩ := g1.get hi
  have hv : v = .ref D := h2
  subst hv
  refine ⟨.ref D, h1, hj σ H1 c1 g1 _ fun u H2 e2 hu => ?_⟩
  cases hu
  have c2 := c1.up e2
  have e12 := e1.trans e2
  obtain ⟨_, _, xs, q1, q2⟩ := c2.own
  have hy2 := T.up (e2.toM (M := Ew.ad W.M D) fun a h => .inl (W.sub a h)) hy
  have put : Exm (Ew.ad W.M D) W.B H2 (upd H2 D (.lst (xs.set k y))) := Exm.put (.inr rfl) nb q1
  have w := own_put (nb := nb) (Ts := Ts) (Us := Ts.set k T) (ys := xs.set k y) c2 q1 ((TysV.setT hy2 k q2).up put)
  refine ⟨D, xs, (k : Int), k, rfl, rfl, q1, ?_, dn σ _ (e12.toW.trans w.2) ⟨w.1, (g.up e12.toW).up w.2⟩⟩
  have hl : k < xs.length := by rw [q2.length]; exact hk
  unfold ixN
  simp [hl]
/-- found[k] -/
theorem ty_ixO {k : Nat} {A : Typ} (hi : Γ[i]? = some (some (isV (.ref D)))) (hj : Ty (W.own D nb Ts) Γ tj (dt K (.int (k : Nat)))) (e : Ts[k]? = some A) : Ty (W.own D nb Ts) Γ (tOp (rIx K) (tVar i) tj) A := fun σ H c g Q q => by
  obtain ⟨v, h1, h2⟩ := g.get hi
  have hv : v = .ref D := h2
  subst hv
  refine ⟨.ref D, h1, hj σ H c g _ fun u H1 e1 hu => ?_⟩
  cases hu
  obtain ⟨_, _, xs, q1, q2⟩ := (c.up e1).own
  obtain ⟨w, h3, h4⟩ := q2.get e
  exact .inl ⟨D, xs, (k : Int), w, rfl, rfl, SqL.of q1, atI_nat h3, q w H1 e1 h4⟩
/-- found.append(e), just something is known of e -/
theorem tys_appendX {α : Type} {φ : α → Prop} {A : α → Typ} (hi : Γ[i]? = some (some (isV (.ref D)))) (h : Ty (W.own D nb Ts) Γ te (exT fun x => gd (φ x) (A x))) (hz : Ts.length < 1000000) : TyS (W.own D nb Ts) Γ (tDrop (tBM K "list" rAppend (tVar i) (tCons te tNil))) (fun σ H => ∃ x : { x // φ x }, nE (W.own D nb (Ts ++ [A x.1])) Γ σ H) R Bk Ct := fun σ H c g E dn dr db dc => by
  obtain ⟨v, h1, h2⟩ := g.get hi
  have hv : v = .ref D := h2
  subst hv
  obtain ⟨_, _, xs0, q0, _⟩ := c.own
  refine ⟨.ref D, h1, .inl ⟨rfl, _, SqL.of q0⟩, h σ H c g _ fun y H2 e ⟨x, hx, hy⟩ => ?_⟩
  have c2 := c.up e
  obtain ⟨_, _, xs, q1, q2⟩ := c2.own
  have put : Exm (Ew.ad W.M D) W.B H2 (upd H2 D (.lst (xs ++ [y]))) := Exm.put (.inr rfl) nb q1
  have w := own_put (nb := nb) (Ts := Ts) (Us := Ts ++ [A x]) (ys := xs ++ [y]) c2 q1 ((q2.append (show TysV (Ew.ad W.M D) W.B [A x] [y] H2 from ⟨hy, True.intro⟩)).up put)
  exact ⟨D, xs, y, rfl, rfl, q1, by rw [q2.length]; exact sz_lt hz, dn σ _ (e.toW.trans w.2) ⟨⟨x, hx⟩, w.1, (g.up e.toW).up w.2⟩⟩
/-- found[k] = e, just something is known of e -/
theorem tys_putX {α : Type} {φ : α → Prop} {A : α → Typ} {k : Nat} (hi : Γ[i]? = some (some (isV (.ref D)))) (h : Ty (W.own D nb Ts) Γ te (exT fun x => gd (φ x) (A x))) (hj : Ty (W.own D nb Ts) Γ tj (dt K (.int (k : Nat)))) (hk : k < Ts.length) : TyS (W.own D nb Ts) Γ (tAsg te (gSub (tVar i) tj rSetL)) (fun σ H => ∃ x : { x // φ x }, nE (W.own D nb (Ts.set k (A x.1))) Γ σ H) R Bk Ct := fun σ H c g E dn dr db dc =>
  h σ H c g _ fun y H1 e1 ⟨x, hx, hy⟩ => by
  have c1 := c.up e1
  have g1 := g.up e1.toW
  obtain ⟨v, h1, h2⟩ := g1.get hi
  have hv : v = .ref D := h2
  subst hv
  refine ⟨.ref D, h1, hj σ H1 c1 g1 _ fun u H2 e2 hu => ?_⟩
  cases hu
  have c2 := c1.up e2
  have e12 := e1.trans e2
  obtain ⟨_, _, xs, q1, q2⟩ := c2.own
  have hy2 := (A x).up (e2.toM (M := Ew.ad W.M D) fun a h => .inl (W.sub a h)) hy
  have put : Exm (Ew.ad W.M D) W.B H2 (upd H2 D (.lst (xs.set k y))) := Exm.put (.inr rfl) nb q1
  have w := own_put (nb := nb) (Ts := Ts) (Us := Ts.set k (A x)) (ys := xs.set k y) c2 q1 ((TysV.setT hy2 k q2).up put)
  refine ⟨D, xs, (k : Int), k, rfl, rfl, q1, ?_, dn σ _ (e12.toW.trans w.2) ⟨⟨x, hx⟩, w.1, (g.up e12.toW).up w.2⟩⟩
  have hl : k < xs.length := by rw [q2.length]; exact hk
  unfold ixN
  simp [hl]
end
section
variable {W : Wd} {Γ : Gam} {K : PySem.W.Frag} {te : TE} {g : TG} {tb : TS} {N : Sx → Hp → Prop} {R : V → Hp → Prop} {Bk Ct : Sx → Hp → Prop}
/-- range(n), n told -/
def iItr (n : Nat) : TI := fun _ H R => R (Itr 0 n) H
theorem tyi_itr {n : Nat} : TyI W Γ (iItr n) ((List.range n).map fun i => dt K (.int (i : Nat))) := fun σ H c g R q => by
  refine q _ H (Ex.refl _ _) ⟨fun _ => True, YFn fun i => .int (0 + i), by rw [List.length_map, List.length_range]; exact walk_range, True.intro, fun M' m => ⟨fun _ _ _ _ => True.intro, fun i Ha x Hb T hT f z y => ?_⟩⟩
  obtain ⟨rfl, y⟩ := y
  obtain ⟨hl, rfl⟩ := range_map_get hT
  subst y
  refine ⟨Ex.refl _ _, ?_⟩
  show Rp M' K Hb (V.int (0 + (i : Int))) (.int (i : Int))
  rw [Int.zero_add]
  exact .int _
/-- for .. in range(e): just something is known of e -/
theorem tys_rngX {φ : Nat → Prop} (h : Ty W Γ te (exT fun n : Nat => gd (φ n) (dt K (.int (n : Nat))))) (hz : ∀ n, φ n → n ≤ 1000000000) (hs : ∀ n, φ n → TyS W Γ (tFor (iItr n) g tb) N R Bk Ct) : TyS W Γ (tFor (iRng1 (tCons te tNil)) g tb) N R Bk Ct := fun σ H c e D dn dr db dc =>
  h σ H c e _ fun v H1 e1 ⟨n, hn, hv⟩ => by
    cases hv
    have := hz n hn
    exact ⟨(n : Int), rfl, by omega, by omega, hs n hn σ H1 (c.up e1) (e.up e1.toW) D (fun σ2 H2 e2 => dn σ2 H2 (e1.toW.trans e2)) dr (fun σ2 H2 e2 => db σ2 H2 (e1.toW.trans e2)) fun σ2 H2 e2 => dc σ2 H2 (e1.toW.trans e2)⟩
end
end Ew

end
section
set_option autoImplicit false
set_option Elab.async false
set_option linter.all false
set_option maxRecDepth 100000
set_option maxHeartbeats 1000000
/-! EwM: // by any int, math.gcd, +=, starred items, dicts with int keys. -/
namespace L2
open PySem PySem.Spec PyProof.Rows
def CDivF (_ j : Int) : Prop := j ≠ 0 ∧ j.natAbs.log2 < 9000
section
variable {X : Cx} {e : Expr} {es : List Expr} {t : TA} {p pos : Pos} {te : TE}
theorem op_fdivF : OpR X (binaryOp .FloorDiv) (rI CDivF fun i j => .int (i.fdiv j)) := opI fun _ _ _ _ _ _ _ hc q => floordiv_int hc.1 q (.inl (PyProof.noPylong_of_log2 hc.2))
theorem k_gcd (m : X.mg "gcd" = some (.builtin "math.gcd")) (ha : PA X (e :: es) t) (hg : Gl X "gcd" := by rfl) (he : starEach (e :: es) X.env = (false, eval e X.env) :: starEach es X.env := by rfl) (hpl : (backTo pos (starEach es X.env)).any (·.1) = false := by rfl) :
    PE X (.Call (.Name "gcd" p) (e :: es) [] pos) (tCB rGcd t) := pe_callBfun cr_gcd hg m ha (by decide) he hpl
def rDictP (K : PySem.W.Frag) : List V → Hp → VK → Prop := fun xs H Q => ∃ (a : Addr) (ps : List Addr) (kvs : List (Key × V)), xs = [.ref a] ∧ SqL K H a (ps.map V.ref) ∧ Paired (fun p kv => SqT K H p [kV kv.1, kv.2]) ps kvs ∧
    ∀ p, H p = none → Q (.ref p) (upd H p (.dK (mergeK [] kvs)))
theorem k_dictP {K : PySem.W.Frag} (hK : X.K = K) (m : X.mg "dict" = none) (ha : PA X (e :: es) t) (hc : X.calm = true := by rfl) (hg : Gl X "dict" := by rfl) (he : starEach (e :: es) X.env = (false, eval e X.env) :: starEach es X.env := by rfl) (hpl : (backTo pos (starEach es X.env)).any (·.1) = false := by rfl) :
    PE X (.Call (.Name "dict" p) (e :: es) [] pos) (tCB (rDictP K) t) := hK ▸ pe_callTy (call_dictP hc) hg m PyProof.Rows.boot_dict ha (by decide) (by decide) he hpl
def rSortD : List V → Hp → VK → Prop := fun xs H Q => ∃ (a : Addr) (kvs : List (Key × V)) (ks : List Int), xs = [.ref a] ∧ Rd H a (.dK kvs) ∧ kvs.map (·.1) = ks.map Sum.inl ∧ ks.length < 64 ∧
    ∀ (ys : List Int) (p : Addr), ys.Perm ks → ys.Pairwise (· ≤ ·) → H p = none → Q (.ref p) (upd H p (.lst (ys.map V.int)))
theorem k_sortD (m : X.mg "sorted" = none) (ha : PA X (e :: es) t) (hc : X.calm = true := by rfl) (hg : Gl X "sorted" := by rfl) (he : starEach (e :: es) X.env = (false, eval e X.env) :: starEach es X.env := by rfl) (hpl : (backTo pos (starEach es X.env)).any (·.1) = false := by rfl) :
    PE X (.Call (.Name "sorted" p) (e :: es) [] pos) (tCB rSortD t) := pe_callB (call_sortedDI hc) hg m PyProof.Rows.boot_sorted ha (by decide) (by decide) he hpl
theorem k_star {K : PySem.W.Frag} (hK : X.K = K) (he : PE X e te) (hr : PA X es t) (hs : starEach (.Starred e p :: es) X.env = (true, eval e X.env) :: starEach es X.env := by rfl) : PA X (.Starred e p :: es) (StX.tStar K te t) := hK ▸ StX.pa_star he hr hs
theorem k_aug (i : Nat) {x : Str} {pos' : Pos} (nd : X.N.Nodup) (he : PE X e te) (hi : X.N[i]? = some x := by rfl) (hx : Loc X.env.scope x := by first | exact Or.inl rfl | exact Or.inr rfl) (hf : X.fn x = true ∨ X.env.scope.names.lookup x = some .local := by first | exact .inl rfl | exact .inr rfl) :
    PS X (.AugAssign (.Name x pos') .Add e pos) (tAug i te (ipI fun i j => i + j)) := ps_aug nd hi hx he ip_add hf
end
end L2
namespace Ew
open PySem PySem.Spec PyProof.Rows L2
section
variable {W : Wd} {Γ : Gam} {K : PySem.W.Frag} {te tb : TE} {tt : TT} {tr : TA} {T : Typ} {Ts Us : List Typ} {g : TG} {vs : List Nat} {i : Nat} {a b : Int} {ds : List (PyData × PyData)} {d : PyData} {R : V → Hp → Prop} {Bk Ct : Sx → Hp → Prop}
theorem opt_fdiv (h : CDivF a b) : OpT W (rI CDivF fun i j => .int (i.fdiv j)) (dt K (.int a)) (dt K (.int b)) (dt K (.int (a.fdiv b))) := opt_I h fun _ _ => .int _
theorem cbt_gcd : CbT W rGcd [dt K (.int a), dt K (.int b)] (dt K (.int ((Int.gcd a b : Nat) : Int))) := fun us H c hu Q q => by
  obtain ⟨v, w, rfl, h, k⟩ := hu.two
  cases h
  cases k
  exact ⟨a, b, rfl, q _ H (Ex.refl _ _) (.int _)⟩
theorem tys_aug (h0 : Γ[i]? = some (some (dt K (.int a)))) (h : Ty W Γ te (dt K (.int b))) : TyS W Γ (tAug i te (ipI fun i j => i + j)) (nE W (Γ.set i (some (dt K (.int (a + b)))))) R Bk Ct := fun σ H c e D dn _ _ _ => by
  obtain ⟨v, h1, h2⟩ := e.get h0
  cases h2
  refine ⟨_, h1, h σ H c e _ fun u H1 e1 hu => ?_⟩
  cases hu
  exact ⟨a, b, rfl, rfl, dn _ H1 e1.toW ⟨c.up e1, EnvL.set (T := dt K (.int (a + b))) (.int _) (e.up e1.toW)⟩⟩
theorem tya_star (h : Ty W Γ te (lstT Us)) (hr : TyA W Γ tr Ts) : TyA W Γ (StX.tStar K te tr) (Us ++ Ts) := fun σ H c e Q q =>
  h σ H c e _ fun v H1 e1 ⟨p, xs, h1, h0, h2, h3⟩ => ⟨p, xs, h1, .inr (SqL.of h2), hr σ H1 (c.up e1) (e.up e1.toW) _ fun ys H2 e2 hy => q _ H2 (e1.trans e2) ((h3.up e2.toW).append hy)⟩
/-- [.. for .. in range(e)]: just something is known of e -/
theorem ty_rngX {φ : Nat → Prop} (h : Ty W Γ te (exT fun n : Nat => gd (φ n) (dt K (.int (n : Nat))))) (hz : ∀ n, φ n → n ≤ 1000000000) (hs : ∀ n, φ n → Ty W Γ (tLc (iItr n) g tt tb vs) T) : Ty W Γ (tLc (iRng1 (tCons te tNil)) g tt tb vs) T := fun σ H c e Q q =>
  h σ H c e _ fun v H1 e1 ⟨n, hn, hv⟩ => by
    cases hv
    have := hz n hn
    exact ⟨(n : Int), rfl, by omega, by omega, hs n hn σ H1 (c.up e1) (e.up e1.toW) Q fun v H2 e2 z => q v H2 (e1.trans e2) z⟩
/-! ### dicts with int keys -/
def pkD (l : List (Int × Int)) : List (PyData × PyData) := l.map fun p => (.int p.1, .int p.2)
def pkK (l : List (Int × Int)) : List (Key × V) := l.map fun p => (.inl p.1, .int p.2)
theorem rpk {M : Addr → Prop} {H : Hp} : ∀ l : List (Int × Int), RpK M K H (pkK l) (pkD l)
  | [] => .nil
  | p :: l => .cons (k := Sum.inl p.1) (.int p.2) (rpk l)
theorem rpk_is {M : Addr → Prop} {H : Hp} : ∀ {l : List (Int × Int)} {kvs : List (Key × V)}, RpK M K H kvs (pkD l) → kvs = pkK l
  | [], _, h => by cases h; rfl
  | p :: l, kvs, h => by
    generalize e : pkD (p :: l) = z at h
    cases h with
    | nil => cases e
    | @cons k v vs d ds h r =>
      injection e with e1 e2
      injection e1 with e3 e4
      subst e2
      obtain rfl := rpk_is r
      subst e4
      cases h
      cases k with
      | inl i => injection e3 with e5; subst e5; rfl
      | inr s => cases e3
theorem pairs_rp {M : Addr → Prop} {H : Hp} : ∀ {l : List (Int × Int)} {xs : List V}, RpA M K H xs (l.map fun p => .tuple [.int p.1, .int p.2]) → ∃ ps : List Addr, xs = ps.map V.ref ∧ Paired (fun p kv => SqT K H p [kV kv.1, kv.2]) ps (pkK l)
  | [], _, h => by cases h; exact ⟨[], rfl, .nil⟩
  | p :: l, _, h => by
    cases h with
    | cons h r =>
      obtain ⟨ps, rfl, k⟩ := pairs_rp r
      cases h with
      | @tup a ys _ h1 h2 =>
        cases h2 with
        | cons h3 h4 =>
          cases h3
          cases h4 with
          | cons h5 h6 =>
            cases h5
            cases h6
            exact ⟨a :: ps, rfl, .cons h1 k⟩
/-- dict([(p, c), ..]), the keys differ -/
theorem ty_dictP {l : List (Int × Int)} (hm : mergeK [] (pkK l) = pkK l) (h : Ty W Γ te (dt K (.list (l.map fun p => .tuple [.int p.1, .int p.2])))) : Ty W Γ (tCB (rDictP K) (tCons te tNil)) (dt K (.dict (pkD l))) := fun σ H c e Q q =>
  h σ H c e _ fun v H1 e1 hv => by
    cases hv with
    | @lst a xs _ h1 h0 h2 =>
      obtain ⟨ps, rfl, k⟩ := pairs_rp h2
      refine ⟨a, ps, pkK l, rfl, SqL.of h1, k, fun p hp => ?_⟩
      rw [hm]
      exact q _ _ (e1.trans (Ex.new hp)) (.dic upd_same (rpk l))
theorem pk_keys (l : List (Int × Int)) : (pkK l).map (·.1) = (l.map (·.1)).map Sum.inl := by
  unfold pkK
  rw [List.map_map, List.map_map]; rfl
/-- sorted(d), the keys in order already -/
theorem ty_sortD {l : List (Int × Int)} (hl : l.length < 64) (hs : (l.map (·.1)).Pairwise (· ≤ ·)) (h : Ty W Γ te (dt K (.dict (pkD l)))) : Ty W Γ (tCB rSortD (tCons te tNil)) (dt K (.list ((l.map (·.1)).map .int))) := fun σ H c e Q q =>
  h σ H c e _ fun v H1 e1 hv => by
    cases hv with
    | @dic a kvs _ h1 h2 =>
      obtain rfl := rpk_is h2
      refine ⟨a, pkK l, l.map (·.1), rfl, .inl h1, pk_keys l, by rw [List.length_map]; exact hl, fun ys p hp hy hn => ?_⟩
      have ey : ys = l.map (·.1) := hp.eq_of_pairwise (le := (· ≤ ·)) (fun a b _ _ h1 h2 => Int.le_antisymm h1 h2) hy hs
      subst ey
      refine q _ _ (e1.trans (Ex.new hn)) (.lst upd_same (c.nm (e1.free hn)) ?_)
      have z : ∀ ns : List Int, RpA W.M K (upd H1 p (.lst ((l.map (·.1)).map V.int))) (ns.map V.int) (ns.map .int) := fun ns => by
        induction ns with
        | nil => exact .nil
        | cons n ns ih => exact .cons (.int n) ih
      exact z _
/-- d[k] -/
theorem ty_dget {l : List (Int × Int)} {k n : Int} (hk : valV (pkK l) (.inl k) = some (.int n)) (h : Ty W Γ te (dt K (.dict (pkD l)))) (hb : Ty W Γ tb (dt K (.int k))) : Ty W Γ (tDGet te tb) (dt K (.int n)) := fun σ H c e Q q =>
  h σ H c e _ fun v H1 e1 hv => hb σ H1 (c.up e1) (e.up e1.toW) _ fun u H2 e2 hu => by
    have hv2 := Rp.up e2.toW hv
    cases hu
    cases hv2 with
    | @dic a kvs _ h1 h2 =>
      obtain rfl := rpk_is h2
      exact ⟨a, .int n, rfl, .inl ⟨pkK l, .inl k, .inl h1, rfl, hk.symm⟩, q _ H2 (e1.trans e2) (.int n)⟩
end
theorem EnvL.setN {M B : Addr → Prop} {H : Hp} {x : Option V} : ∀ {Γ : Gam} {σ : Sx} (n : Nat), EnvL M B Γ σ H → EnvL M B (Γ.set n none) (σ.set n x) H
  | [], [], _, h => h
  | none :: Γ, y :: σ, 0, h => h
  | some T :: Γ, some v :: σ, 0, h => h.2
  | none :: Γ, y :: σ, n + 1, h => EnvL.setN (Γ := Γ) (σ := σ) n h
  | some T :: Γ, some v :: σ, n + 1, h => ⟨h.1, EnvL.setN (Γ := Γ) (σ := σ) n h.2⟩
  | [], _ :: _, _, h => h.elim
  | none :: _, [], _, h => h.elim
  | some _ :: _, [], _, h => h.elim
  | some _ :: _, none :: _, _, h => h.elim
def prodI (n : Int) (l : List (Int × Int)) : Int := l.foldl (fun n p => n * p.1 ^ p.2.toNat) n
/-- for p in d: for t in range(d[p]): n = n * p -/
theorem tys_dictFor {W : Wd} {Γ : Gam} {K : PySem.W.Frag} {c n p t : Nat} {l : List (Int × Int)} {n0 : Int} {R : V → Hp → Prop} {Bk Ct : Sx → Hp → Prop} (hc : Γ[c]? = some (some (dt K (.dict (pkD l))))) (hn : Γ[n]? = some (some (dt K (.int n0))))
    (hcn : c ≠ n) (hcp : c ≠ p) (hct : c ≠ t) (hnp : n ≠ p) (hnt : n ≠ t) (hpt : p ≠ t) (lp : p < Γ.length) (hv : ∀ q ∈ l, valV (pkK l) (.inl q.1) = some (.int q.2)) (hb : ∀ q ∈ l, 0 ≤ q.2 ∧ q.2 ≤ 1000 ∧ -(2 ^ 64) < q.1 ∧ q.1 < 2 ^ 64) :
    TyS W Γ (tLock (tFor (iKeys (tVar c)) (gName p) (tFor (iRng1 (tCons (tDGet (tVar c) (tVar p)) tNil)) (gName t) (tAsg (tOp rMulA (tVar n) (tVar p)) (gName n))))) (nE W (((Γ.set n (some (dt K (.int (prodI n0 l))))).set p none).set t none)) R Bk Ct := fun σ H cx g D dn _ _ _ => by
  obtain ⟨u, s1, hu⟩ := g.get hc
  obtain ⟨w, s2, hw⟩ := g.get hn
  cases hw
  cases hu with
  | @dic d kvs _ e1 e2 =>
  obtain rfl := rpk_is e2
  refine ⟨d, _, e1, trivial, fun od => ?_⟩
  have hd : upd H d (.frz od (.dK (pkK l))) d = some (.frz od (.dK (pkK l))) := upd_same
  generalize hH : upd H d (.frz od (.dK (pkK l))) = H' at hd
  refine ⟨.ref d, s1, d, od, rfl, .inl ⟨pkK l, hd, ?_⟩⟩
  have back : upd H' d (.dK (pkK l)) = H := by
    rw [← hH]
    funext x
    by_cases e : x = d
    · rw [e, upd_same, e1]
    · rw [upd_ne e, upd_ne e]
  have lenP : (pkK l).length = l.length := List.length_map _
  have lc : c < σ.length := (List.getElem?_eq_some_iff.mp s1).1
  have ln : n < σ.length := (List.getElem?_eq_some_iff.mp s2).1
  have lg : σ.length = Γ.length := g.length
  let Pv : Nat → Sx → Hp → Prop := fun i σ' H2 => H2 = H' ∧ ∃ x y, σ' = ((σ.set n (some (.int (prodI n0 (l.take i))))).set p x).set t y
  refine for_it walk_keys Pv ⟨rfl, σ[p]?.join, σ[t]?.join, ?_⟩ (fun i σ' H2 _ h => by rw [h.1]; exact hd) ?_ ?_
  · have self : ∀ (σ : Sx) (k : Nat), σ.set k σ[k]?.join = σ := fun σ k => by
      apply List.ext_getElem?
      intro j
      by_cases e : k = j
      · subst e
        by_cases z : k < σ.length
        · rw [List.getElem?_set_self z, List.getElem?_eq_getElem z]; rfl
        · rw [List.getElem?_eq_none (by rw [List.length_set]; omega), List.getElem?_eq_none (by omega)]
      · rw [List.getElem?_set_ne e]
    have a1 : σ.set n (some (.int (prodI n0 (l.take 0)))) = σ := by
      have := self σ n
      rw [s2] at this
      exact this
    rw [a1, self, self]
  · rintro i v σ' H2 H3 hi ⟨h2, x, y, rfl⟩ ⟨h3, k, v', hk, rfl⟩
    have e : H' = H3 := (h3.trans h2).symm
    subst e
    clear h3 h2
    rw [lenP] at hi
    have hq : l[i]? = some l[i] := List.getElem?_eq_getElem hi
    have mq := List.getElem_mem hi
    obtain ⟨rfl, rfl⟩ : k = Sum.inl l[i].1 ∧ v' = V.int l[i].2 := by
      unfold pkK at hk
      rw [List.getElem?_map, hq] at hk
      have := Option.some.inj hk
      exact ⟨(congrArg Prod.fst this).symm, (congrArg Prod.snd this).symm⟩
    obtain ⟨b0, b1, b2, b3⟩ := hb _ mq
    have e0 : ((((σ.set n (some (.int (prodI n0 (l.take i))))).set p x).set t y).set p (some (kV (Sum.inl l[i].1)))) = ((σ.set n (some (.int (prodI n0 (l.take i))))).set p (some (.int l[i].1))).set t y := by
      rw [List.set_comm _ _ hpt.symm, List.set_set]; rfl
    show tFor _ _ _ _ (((((σ.set n (some (.int (prodI n0 (l.take i))))).set p x).set t y).set p (some (kV (Sum.inl l[i].1))))) _
    rw [e0]
    have slot : ∀ (m : Int) (y : Option V), (((σ.set n (some (.int m))).set p (some (.int l[i].1))).set t y)[c]? = some (some (.ref d)) ∧ (((σ.set n (some (.int m))).set p (some (.int l[i].1))).set t y)[n]? = some (some (.int m)) ∧ (((σ.set n (some (.int m))).set p (some (.int l[i].1))).set t y)[p]? = some (some (.int l[i].1)) := fun m y => by
      refine ⟨?_, ?_, ?_⟩
      · rw [List.getElem?_set_ne hct.symm, List.getElem?_set_ne hcp.symm, List.getElem?_set_ne hcn.symm]; exact s1
      · rw [List.getElem?_set_ne hnt.symm, List.getElem?_set_ne hnp.symm, List.getElem?_set_self ln]
      · rw [List.getElem?_set_ne hpt.symm, List.getElem?_set_self (by rw [List.length_set, lg]; exact lp)]
    obtain ⟨c1, c2, c3⟩ := slot (prodI n0 (l.take i)) y
    refine ⟨.ref d, c1, .int l[i].1, c3, d, .int l[i].2, rfl, .inl ⟨pkK l, .inl l[i].1, .inr ⟨od, hd⟩, rfl, (hv _ mq).symm⟩, l[i].2, rfl, by omega, by omega, ?_⟩
    let Pw : Nat → Sx → Hp → Prop := fun j σ' H2 => H2 = H' ∧ ∃ y, σ' = ((σ.set n (some (.int (prodI n0 (l.take i) * l[i].1 ^ j)))).set p (some (.int l[i].1))).set t y
    refine for_it walk_range Pw ⟨rfl, y, by rw [Int.pow_zero, Int.mul_one]⟩ (fun _ _ _ _ _ => True.intro) ?_ ?_
    · rintro j v σ' H2 H3 hj ⟨hh, y, rfl⟩ yy
      obtain ⟨z1, z2⟩ := yy
      have e : H' = H3 := (z1.trans hh).symm
      subst e
      subst z2
      clear z1 hh
      have e2 : ((((σ.set n (some (.int (prodI n0 (l.take i) * l[i].1 ^ j)))).set p (some (.int l[i].1))).set t y).set t (some (.int (0 + (j : Int))))) = ((σ.set n (some (.int (prodI n0 (l.take i) * l[i].1 ^ j)))).set p (some (.int l[i].1))).set t (some (.int (0 + (j : Int)))) := by rw [List.set_set]
      show tAsg _ _ _ ((((σ.set n (some (.int (prodI n0 (l.take i) * l[i].1 ^ j)))).set p (some (.int l[i].1))).set t y).set t (some (.int (0 + (j : Int))))) _
      rw [e2]
      obtain ⟨d1, d2, d3⟩ := slot (prodI n0 (l.take i) * l[i].1 ^ j) (some (.int (0 + (j : Int))))
      refine ⟨_, d2, _, d3, .inl ⟨_, _, rfl, rfl, .inr ⟨b2, b3⟩, ?_⟩⟩
      refine ⟨rfl, some (.int (0 + (j : Int))), ?_⟩
      show (((σ.set n (some (.int (prodI n0 (l.take i) * l[i].1 ^ j)))).set p (some (.int l[i].1))).set t (some (.int (0 + (j : Int))))).set n (some (.int (prodI n0 (l.take i) * l[i].1 ^ j * l[i].1))) = _
      rw [List.set_comm _ _ hnt.symm, List.set_comm _ _ hnp.symm, List.set_set, Int.pow_succ, Int.mul_assoc]
    · rintro σ' H2 ⟨rfl, y, rfl⟩
      refine ⟨rfl, some (.int l[i].1), y, ?_⟩
      have e3 : prodI n0 (l.take (i + 1)) = prodI n0 (l.take i) * l[i].1 ^ l[i].2.toNat := by
        unfold prodI
        rw [List.take_add_one, hq]
        show List.foldl _ _ (l.take i ++ [l[i]]) = _
        rw [List.foldl_append]; rfl
      rw [e3]
  · rintro σ' H2 ⟨rfl, x, y, rfl⟩
    rw [lenP, List.take_length]
    refine ⟨hd, ?_⟩
    show D.nx _ _
    rw [back]
    exact dn _ H (Exm.refl _ _ _) ⟨cx, (((EnvL.set (T := dt K (.int (prodI n0 l))) (.int _) g)).setN p).setN t⟩
section
variable {W : Wd} {Γ : Gam} {K : PySem.W.Frag} {te t1 t2 : TE} {tt : TT} {tb tw : TS} {i n m k : Nat} {a b : Int} {N : Sx → Hp → Prop} {R : V → Hp → Prop} {Bk Ct : Sx → Hp → Prop}
/-- while, the world moves along -/
theorem tys_whileW {α : Type} (I : α → Prop) (Wi : α → Wd) (Γi : α → Gam) (mz : α → Nat) (x0 : α) (i0 : I x0) (like : ∀ x, W.Like (Wi x)) (h0 : ∀ σ H, nE W Γ σ H → nE (Wi x0) (Γi x0) σ H)
    (hs : ∀ x, I x → ∃ φ : Bool → Prop, Tt (Wi x) (Γi x) tt φ ∧ (φ true → TyS (Wi x) (Γi x) tb (fun σ H => ∃ y, I y ∧ mz y < mz x ∧ nE (Wi y) (Γi y) σ H) R N (fun σ H => ∃ y, I y ∧ mz y < mz x ∧ nE (Wi y) (Γi y) σ H)) ∧ (φ false → ∀ σ H, nE (Wi x) (Γi x) σ H → N σ H)) :
    TyS W Γ (tWhile tt tb) N R Bk Ct := fun σ H c g D dn dr db dc => by
  refine ⟨fun n σ1 H1 => ∃ x, I x ∧ mz x = n ∧ nE (Wi x) (Γi x) σ1 H1 ∧ Exm W.M W.B H H1, ⟨mz x0, x0, i0, rfl, h0 σ H ⟨c, g⟩, Exm.refl _ _ _⟩, ?_⟩
  rintro n σ1 H1 ⟨x, ix, rfl, n1, e1⟩
  obtain ⟨φ, ht, hy, hn⟩ := hs x ix
  have l := like x
  refine ht σ1 H1 n1.1 n1.2 _ fun b H2 e2 hb => ?_
  have c2 := n1.1.up e2
  have g2 := n1.2.up e2.toW
  have e12 := e1.trans (l.exm e2.toW)
  cases b with
  | true =>
    rw [if_pos rfl]
    refine ⟨fun σ' H' => ∃ y, I y ∧ mz y < mz x ∧ nE (Wi y) (Γi y) σ' H' ∧ Exm W.M W.B H H', fun σ' H' ⟨y, iy, ly, ny, ey⟩ => ⟨mz y, ly, y, iy, rfl, ny, ey⟩, ?_⟩
    exact hy hb σ1 H2 c2 g2 _ (fun σ' H' e3 ⟨y, iy, ly, ny⟩ => ⟨y, iy, ly, ny, e12.trans (l.exm e3)⟩) dr (fun σ' H' e3 n3 => dn σ' H' (e12.trans (l.exm e3)) n3) (fun σ' H' e3 ⟨y, iy, ly, ny⟩ => ⟨y, iy, ly, ny, e12.trans (l.exm e3)⟩)
  | false =>
    rw [if_neg Bool.false_ne_true]
    exact dn σ1 H2 e12 (hn hb σ1 H2 ⟨c2, g2⟩)
/-- found, a, b = [], .., ..: ints -/
theorem tys_own3 (h : TyL W Γ te []) (h1 : Ty W Γ t1 (dt K (.int a))) (h2 : Ty W Γ t2 (dt K (.int b)))
    (hb : ∀ D (nb : ¬ W.B D), ¬ W.M D → TyS (W.own D nb []) (((Γ.set n (some (isV (.ref D)))).set m (some (dt K (.int a)))).set k (some (dt K (.int b)))) tw N R noN noN) : TyS W Γ (tSeq (tPar3 n m k (tCons te (tCons t1 (tCons t2 tNil)))) tw) N R Bk Ct := fun σ H c g E dn dr db dc =>
  h σ H c g _ fun p xs H1 e hp hx1 hx2 => h1 σ H1 (c.up e) (g.up e.toW) _ fun v H2 e2 hv => h2 σ H2 (c.up (e.trans e2)) (g.up (e.trans e2).toW) _ fun w H3 e3 hw => by
    cases hv
    cases hw
    refine ⟨.ref p, .int a, .int b, rfl, ?_⟩
    have nm : ¬ W.M p := c.nm hp
    have nb : ¬ W.B p := c.nb hp
    have e13 := e.trans (e2.trans e3)
    have hx3 : H3 p = some (.lst xs) := e3.keep (e2.keep hx1 nb) nb
    have c1 := c.up e13
    have c2 : Cxt (W.own p nb []) H3 := ⟨c1.box, fun a z => z.elim (c1.al a) (fun w => by rw [w, hx3]; intro q; cases q), c1.ex, ⟨H, c.own, hp, e13⟩, c.ex.free hp, xs, hx3, by
      match xs, hx2 with
      | [], _ => exact True.intro⟩
    have g1 : EnvL (Ew.ad W.M p) W.B Γ σ H3 := (EnvL.weak hp g).up (e13.toM fun a h => .inl (W.sub a h))
    exact hb p nb nm _ H3 c2 (EnvL.set (T := dt K (.int b)) (.int b) (EnvL.set (T := dt K (.int a)) (.int a) (EnvL.set (T := isV (.ref p)) rfl g1))) E (fun σ' H' e' n => dn σ' H' (Exm.less e13 e' W.sub hp) n) dr (fun _ _ _ z => z.elim) (fun _ _ _ z => z.elim)
/-- the list is done, what follows may go on -/
theorem tys_finN {D : Addr} {nb : ¬ W.B D} {Ts : List Typ} (hi : Γ[i]? = some (some (isV (.ref D)))) (nm : ¬ W.M D) (h : TyS W (Γ.set i (some (lstT Ts))) tw N R Bk Ct) : TyS (W.own D nb Ts) Γ tw N R Bk Ct := fun σ H c g E dn dr db dc => by
  obtain ⟨v, h1, h2⟩ := g.get hi
  have hv : v = .ref D := h2
  subst hv
  obtain ⟨_, _, xs, o4, o5⟩ := c.own
  have g1 : EnvL W.M W.B Γ σ H := EnvL.drop g
  have z := EnvL.set (T := lstT Ts) (i := i) (v := .ref D) ⟨D, xs, rfl, nm, o4, o5.drop⟩ g1
  have e : σ.set i (some (V.ref D)) = σ := by
    apply List.ext_getElem?
    intro j
    by_cases hj : i = j
    · subst hj
      rw [List.getElem?_set_self (List.getElem?_eq_some_iff.mp h1).1, h1]
    · rw [List.getElem?_set_ne hj]
  rw [e] at z
  exact h σ H (own_out c) z E (fun σ' H' e n => dn σ' H' e.adM n) dr (fun σ' H' e n => db σ' H' e.adM n) fun σ' H' e n => dc σ' H' e.adM n
end
end Ew

end
set_option Elab.async false
set_option linter.all false
set_option maxRecDepth 100000
set_option maxHeartbeats 400000
namespace Lk01
section
open PySem L2 Ew
local macro_rules | `(tactic| tm_at "side") => `(tactic| first | assumption | omega | decide | (exact sm_mul (by assumption) (by assumption)) | (exact ⟨by decide, by decide, by decide⟩) | (exact ⟨by decide, by decide⟩) | (exact .inl ⟨by decide, by decide⟩) | (exact .inr ⟨by decide, by decide⟩) | (simp only [List.length_cons, List.length_nil, List.length_map, List.length_range]; omega) | rfl)
local macro_rules | `(tactic| tm_at "op") => `(tactic| first
  | (with_reducible exact opt_add) | (with_reducible exact opt_sub) | (with_reducible exact opt_lt) | (with_reducible exact opt_le) | (with_reducible exact opt_gt) | (with_reducible exact opt_ge)
  | (with_reducible exact opt_eqI) | (with_reducible exact opt_neI) | (with_reducible exact opt_eqB) | (with_reducible exact opt_neB) | (with_reducible exact opt_eqS) | (with_reducible exact opt_neS)
  | (with_reducible exact opt_isN) | (with_reducible exact opt_notN) | (with_reducible exact opt_isB)
  | ((with_reducible refine' opt_mod ?s1); (case s1 => tm_at "side"))
  | ((with_reducible refine' opt_catT ?s1); (case s1 => tm_at "side"))
  | ((with_reducible refine' opt_catL ?s1); (case s1 => tm_at "side"))
  | (with_reducible exact opt_ix0)
  | ((with_reducible refine' opt_ixT ?s1); (case s1 => tm_at "side"))
  | ((with_reducible refine' opt_ixL ?s1); (case s1 => tm_at "side"))
  | ((with_reducible refine' opt_mul ?s1); (case s1 => tm_at "side"))
  | ((with_reducible refine' opt_mulW ?s1); (case s1 => tm_at "side"))
  | ((with_reducible refine' opt_div ?s1); (case s1 => tm_at "side"))
  | ((with_reducible refine' opt_pow ?s1); (case s1 => tm_at "side"))
  | ((with_reducible refine' opt_eqD ?s1 ?s2); (case s1 => tm_at "side"); (case s2 => tm_at "side"))
  | ((with_reducible refine' opt_neD ?s1 ?s2); (case s1 => tm_at "side"); (case s2 => tm_at "side")))
local macro_rules | `(tactic| tm_at "cb") => `(tactic| first
  | (with_reducible exact cbt_lenT) | (with_reducible exact cbt_lenL) | (with_reducible exact cbt_lenLT) | ((with_reducible refine' cbt_lenS ?s1); (case s1 => tm_at "side"))
  | ((with_reducible refine' cbt_isi ?s1); (case s1 => decide))
  | (with_reducible exact cbt_abs) | (with_reducible exact cbt_max2) | (with_reducible exact cbt_min2) | (with_reducible exact cbt_intI) | (with_reducible exact cbt_intB)
  | (with_reducible exact cbt_sum) | (with_reducible exact cbt_all) | (with_reducible exact cbt_tupL) | (with_reducible exact cbt_tupT))
local macro_rules | `(tactic| tm_at "tya") => `(tactic| first
  | (with_reducible exact tya_nil)
  | ((with_reducible refine' tya_cons ?h1 ?h2); (case h1 => tm_at "ty"); (case h2 => tm_at "tya")))
local macro_rules | `(tactic| tm_at "ty") => `(tactic| first
  | assumption
  | ((with_reducible refine' ty_var ?h1); (case h1 => rfl))
  | (with_reducible exact ty_int) | (with_reducible exact ty_bl) | (with_reducible exact ty_non) | (with_reducible exact ty_str) | (exact ty_int (K := by assumption)) | (exact ty_bl (K := by assumption)) | (exact ty_non (K := by assumption)) | (exact ty_str (K := by assumption)) | (with_reducible exact ty_c)
  | ((with_reducible refine' ty_isi2 ?h1 ?h2 ?h3); (case h1 => tm_at "ty"); (case h2 => decide); (case h3 => decide))
  | ((with_reducible refine' ty_cb ?h1 ?h2); (case h1 => tm_at "tya"); (case h2 => tm_at "cb"))
  | ((with_reducible refine' ty_op ?h1 ?h2 ?h3); (case h1 => tm_at "ty"); (case h2 => tm_at "ty"); (case h3 => tm_at "op"))
  | ((with_reducible refine' ty_un ?h1 ?h2); (case h1 => tm_at "ty"); (case h2 => exact unt_neg))
  | ((with_reducible refine' ty_andV ?h1 ?h2); (case h1 => tm_at "ty"); (case h2 => intro _; tm_at "ty"))
  | ((with_reducible refine' ty_orV ?h1 ?h2); (case h1 => tm_at "ty"); (case h2 => intro _; tm_at "ty"))
  | ((with_reducible refine' ty_notV ?h1); (case h1 => tm_at "ty"))
  | ((with_reducible refine' ty_chain ?h1 ?h2 ?h3 ?h4 ?h5); (case h1 => tm_at "ty"); (case h2 => tm_at "ty"); (case h3 => tm_at "op"); (case h4 => intro _; tm_at "ty"); (case h5 => tm_at "op")))
local macro_rules | `(tactic| tm_at "tt") => `(tactic| first
  | ((with_reducible refine' tt_B ?h1); (case h1 => tm_at "ty"))
  | ((with_reducible refine' tt_test ?h1); (case h1 => tm_at "ty"))
  | ((with_reducible refine' tt_notB ?h1); (case h1 => tm_at "tt"))
  | ((with_reducible refine' tt_andB ?h1 ?h2); (case h1 => tm_at "tt"); (case h2 => intro _; tm_at "tt"))
  | ((with_reducible refine' tt_orB ?h1 ?h2); (case h1 => tm_at "tt"); (case h2 => intro _; tm_at "tt")))
local macro_rules | `(tactic| tm_at "tyis") => `(tactic| (refine' Ty.is ?h1 ?h2; (case h1 => tm_at "ty"); (case h2 => rfl)))
local macro_rules | `(tactic| tm_at "ttis") => `(tactic| (refine' Tt.is ?h1 ?h2; (case h1 => tm_at "tt"); (case h2 => rfl)))
local macro_rules | `(tactic| tm_at "tyad") => `(tactic| (refine' TyA.data ?h1 ?h2; (case h1 => tm_at "tya"); (case h2 => rfl)))
/-! ### plain: divisors -/
def gI (a b : Int) : Int := (Int.gcd a b : Nat)
theorem bezN (a b : Nat) : ∃ x y : Int, (Nat.gcd a b : Int) = a * x + b * y := by
  induction a, b using Nat.gcd.induction with
  | H0 n => exact ⟨0, 1, by simp⟩
  | H1 m n h ih =>
    obtain ⟨x, y, e⟩ := ih
    refine ⟨y - (n / m : Nat) * x, x, ?_⟩
    rw [Nat.gcd_rec, e]
    have q : (n : Int) = m * (n / m : Nat) + (n % m : Nat) := by
      have := Nat.div_add_mod n m
      exact_mod_cast this.symm
    generalize ((n / m : Nat) : Int) = c at *
    generalize ((n % m : Nat) : Int) = r at *
    rw [q]; grind
theorem gI_bez (a b : Int) : ∃ x y, gI a b = a * x + b * y := by
  obtain ⟨x, y, e⟩ := bezN a.natAbs b.natAbs
  have q : ∀ z : Int, ∃ s : Int, (z.natAbs : Int) = z * s := fun z => by
    rcases Int.natAbs_eq z with h | h
    · exact ⟨1, by omega⟩
    · exact ⟨-1, by omega⟩
  obtain ⟨s, hs⟩ := q a
  obtain ⟨t, ht⟩ := q b
  refine ⟨s * x, t * y, ?_⟩
  show ((Nat.gcd a.natAbs b.natAbs : Nat) : Int) = _
  rw [e, hs, ht]; grind
theorem gI_l (a b : Int) : gI a b ∣ a := Int.gcd_dvd_left ..
theorem gI_r (a b : Int) : gI a b ∣ b := Int.gcd_dvd_right ..
theorem gI_pos {a b : Int} (h : 0 < a) : 0 < gI a b := by
  have : 0 < Int.gcd a b := Int.gcd_pos_of_ne_zero_left b (by omega)
  unfold gI; omega
theorem gI_comm (a b : Int) : gI a b = gI b a := by unfold gI; rw [Int.gcd_comm]
theorem gI_dvd {a b d : Int} (h : d ∣ a) (k : d ∣ b) : d ∣ gI a b := by
  obtain ⟨x, y, e⟩ := gI_bez a b
  rw [e]
  exact Int.dvd_add (Int.dvd_trans h (Int.dvd_mul_right ..)) (Int.dvd_trans k (Int.dvd_mul_right ..))
theorem gI_step (a b c : Int) : gI b (a - c * b) = gI a b := by
  unfold gI
  rw [Int.gcd_sub_mul_right_right, Int.gcd_comm]
theorem gI_mod (a b : Int) : gI b (a % b) = gI a b := by
  have e : a % b = a - a / b * b := by
    have := Int.emod_add_mul_ediv a b
    rw [Int.mul_comm (a / b) b]
    omega
  rw [e]; exact gI_step a b _
theorem gI_zero (a : Int) : gI a 0 = if a < 0 then -a else a := by
  unfold gI; simp
  split <;> omega
theorem gI_abs (a b : Int) : gI (if a < 0 then -a else a) (if b < 0 then -b else b) = gI a b := by
  unfold gI
  split <;> split <;> simp [Int.gcd_neg, Int.neg_gcd]
theorem gI_nonneg (a b : Int) : 0 ≤ gI a b := by unfold gI; omega
/-! ### the walk of divisors, with signs -/
structure Row2 where
  r0 : Int
  x0 : Int
  y0 : Int
  r1 : Int
  x1 : Int
  y1 : Int
def stepR (s : Row2) : Row2 := ⟨s.r1, s.x1, s.y1, s.r0 - s.r0.fdiv s.r1 * s.r1, s.x0 - s.r0.fdiv s.r1 * s.x1, s.y0 - s.r0.fdiv s.r1 * s.y1⟩
theorem fdiv_cases (a : Int) {b : Int} (h : b ≠ 0) : (0 < b ∧ a.fdiv b = a / b) ∨ (b < 0 ∧ a.fdiv b = (-a) / (-b)) := by
  by_cases c : 0 < b
  · exact .inl ⟨c, Int.fdiv_eq_ediv_of_nonneg a (by omega)⟩
  · refine .inr ⟨by omega, ?_⟩
    rw [← Int.fdiv_eq_ediv_of_nonneg (-a) (by omega : 0 ≤ -b), Int.neg_fdiv_neg]
/-- what is left, beside the divisor -/
theorem left_r (a : Int) {b : Int} (h : b ≠ 0) : (a - a.fdiv b * b).natAbs < b.natAbs ∧ 0 ≤ b * (a - a.fdiv b * b) := by
  rcases fdiv_cases a h with ⟨c, e⟩ | ⟨c, e⟩
  · rw [e]
    have e1 := Int.emod_add_mul_ediv a b
    have k1 := Int.emod_nonneg a (show b ≠ 0 by omega)
    have k2 := Int.emod_lt_of_pos a c
    rw [Int.mul_comm] at e1
    have e2 : a - a / b * b = a % b := by omega
    rw [e2]
    exact ⟨by omega, Int.mul_nonneg (by omega) k1⟩
  · rw [e]
    have e1 := Int.emod_add_mul_ediv (-a) (-b)
    have k1 := Int.emod_nonneg (-a) (show -b ≠ 0 by omega)
    have k2 := Int.emod_lt_of_pos (-a) (show 0 < -b by omega)
    have e2 : a - (-a) / (-b) * b = -((-a) % (-b)) := by
      have : (-b) * ((-a) / (-b)) = -((-a) / (-b) * b) := by rw [Int.neg_mul, Int.mul_comm]
      omega
    rw [e2]
    refine ⟨by omega, ?_⟩
    have : b * -((-a) % (-b)) = (-b) * ((-a) % (-b)) := by rw [Int.mul_neg, Int.neg_mul]
    rw [this]
    exact Int.mul_nonneg (by omega) k1
theorem fdiv_abs (a : Int) {b : Int} (h : b ≠ 0) : (a.fdiv b).natAbs ≤ a.natAbs := by
  rcases fdiv_cases a h with ⟨c, e⟩ | ⟨c, e⟩
  · rw [e]; exact Int.natAbs_ediv_le_natAbs a b
  · rw [e]
    have := Int.natAbs_ediv_le_natAbs (-a) (-b)
    rwa [Int.natAbs_neg] at this
theorem step_lt {s : Row2} (h : s.r1 ≠ 0) : (stepR s).r1.natAbs < s.r1.natAbs := (left_r s.r0 h).1
def euc (s : Row2) : Row2 := if h : s.r1 = 0 then s else euc (stepR s)
termination_by s.r1.natAbs
decreasing_by exact step_lt h
theorem euc_stop {s : Row2} (h : s.r1 = 0) : euc s = s := by rw [euc, dif_pos h]
theorem euc_go {s : Row2} (h : s.r1 ≠ 0) : euc s = euc (stepR s) := by rw [euc, dif_neg h]
/-- the rows are made of one and other -/
structure PR (one other : Int) (s : Row2) : Prop where
  g : gI s.r0 s.r1 = gI one other
  l0 : s.r0 = one * s.x0 + other * s.y0
  l1 : s.r1 = one * s.x1 + other * s.y1
theorem PR.step {one other : Int} {s : Row2} (P : PR one other s) : PR one other (stepR s) := by
  refine ⟨?_, P.l1, ?_⟩
  · show gI s.r1 (s.r0 - s.r0.fdiv s.r1 * s.r1) = _
    rw [gI_step]; exact P.g
  · show s.r0 - s.r0.fdiv s.r1 * s.r1 = one * (s.x0 - s.r0.fdiv s.r1 * s.x1) + other * (s.y0 - s.r0.fdiv s.r1 * s.y1)
    have a := P.l0
    have b := P.l1
    generalize s.r0.fdiv s.r1 = c at *
    have : s.r0 - c * s.r1 = (one * s.x0 + other * s.y0) - c * (one * s.x1 + other * s.y1) := by rw [← a, ← b]
    rw [this]; grind
theorem PR.euc {one other : Int} : ∀ {s : Row2}, PR one other s → PR one other (euc s) ∧ (Lk01.euc s).r1 = 0 := fun {s} P => by
  by_cases h : s.r1 = 0
  · rw [euc_stop h]; exact ⟨P, h⟩
  · rw [euc_go h]
    exact PR.euc P.step
termination_by s => s.r1.natAbs
decreasing_by exact step_lt h
def startR (one other : Int) : Row2 := ⟨one, 1, 0, other, 0, 1⟩
theorem PR.start (one other : Int) : PR one other (startR one other) := ⟨rfl, by simp [startR], by simp [startR]⟩
def endR (s : Row2) : List Int := if 0 ≤ s.r0 then [s.r0, s.x0, s.y0] else [-s.r0, -s.x0, -s.y0]
/-- the divisor and its shares -/
def shI (one other : Int) : List Int := endR (euc (startR one other))
theorem sh_is (one other : Int) : ∃ x y, shI one other = [gI one other, x, y] ∧ gI one other = x * one + y * other := by
  obtain ⟨P, h⟩ := (PR.start one other).euc
  have e := P.g
  rw [h, gI_zero] at e
  have l := P.l0
  unfold shI endR
  by_cases c : 0 ≤ (euc (startR one other)).r0
  · rw [if_pos c]
    rw [if_neg (by omega)] at e
    refine ⟨_, _, by rw [← e], ?_⟩
    rw [← e, l]; grind
  · rw [if_neg c]
    rw [if_pos (by omega)] at e
    refine ⟨_, _, by rw [← e], ?_⟩
    rw [← e, l]; grind
/-! sizes -/
structure Gd (B : Int) (s : Row2) : Prop where
  sg : 0 ≤ s.r0 * s.r1
  bx : (s.r0.natAbs : Int) * (s.x1.natAbs : Int) + (s.r1.natAbs : Int) * (s.x0.natAbs : Int) ≤ B
  b_y : (s.r0.natAbs : Int) * (s.y1.natAbs : Int) + (s.r1.natAbs : Int) * (s.y0.natAbs : Int) ≤ B
  r0 : (s.r0.natAbs : Int) ≤ B
  r1 : (s.r1.natAbs : Int) ≤ B
  x0 : (s.x0.natAbs : Int) ≤ B
  x1 : (s.x1.natAbs : Int) ≤ B
  y0 : (s.y0.natAbs : Int) ≤ B
  y1 : (s.y1.natAbs : Int) ≤ B
theorem euc_core {m r0 r1 c a0 a1 a2 : Int} (b : r0 * a1 + r1 * a0 ≤ m) (t : a2 ≤ a0 + c * a1) (h : 0 < r1) (k3 : 0 ≤ r0 - c * r1) (n1 : 0 ≤ a1) (nn : 0 ≤ a2) : r1 * a2 + (r0 - c * r1) * a1 ≤ m ∧ a2 ≤ m := by
  have u : r1 * a2 ≤ r1 * (a0 + c * a1) := Int.mul_le_mul_of_nonneg_left t (by omega)
  have w : r1 * a2 + (r0 - c * r1) * a1 ≤ m := by
    have e : r1 * (a0 + c * a1) + (r0 - c * r1) * a1 = r0 * a1 + r1 * a0 := by grind
    omega
  refine ⟨w, ?_⟩
  have v : 0 ≤ (r0 - c * r1) * a1 := Int.mul_nonneg k3 n1
  have y : 1 * a2 ≤ r1 * a2 := Int.mul_le_mul_of_nonneg_right (by omega) nn
  omega
/-- where both have one sign, the quotient is that of the sizes -/
theorem same_sign {a b : Int} (h : b ≠ 0) (s : 0 ≤ a * b) : 0 ≤ a.fdiv b ∧ ((a - a.fdiv b * b).natAbs : Int) = (a.natAbs : Int) - a.fdiv b * (b.natAbs : Int) := by
  rcases fdiv_cases a h with ⟨c, e⟩ | ⟨c, e⟩
  · have a0 : 0 ≤ a := by
      by_cases z : 0 ≤ a
      · exact z
      · have : a * b < 0 := Int.mul_neg_of_neg_of_pos (by omega) c
        omega
    have k1 := left_r a h
    rw [e] at k1 ⊢
    have k2 : 0 ≤ a - a / b * b := by
      have e1 := Int.emod_add_mul_ediv a b
      have k1 := Int.emod_nonneg a h
      rw [Int.mul_comm] at e1
      omega
    refine ⟨Int.ediv_nonneg a0 (by omega), ?_⟩
    have q1 : (a.natAbs : Int) = a := by omega
    have q2 : (b.natAbs : Int) = b := by omega
    rw [q1, q2]; omega
  · have a0 : a ≤ 0 := by
      by_cases z : a ≤ 0
      · exact z
      · have : a * b < 0 := Int.mul_neg_of_pos_of_neg (by omega) c
        omega
    rw [e]
    have e1 := Int.emod_add_mul_ediv (-a) (-b)
    have k1 := Int.emod_nonneg (-a) (show -b ≠ 0 by omega)
    have q1 : (a.natAbs : Int) = -a := by omega
    have q2 : (b.natAbs : Int) = -b := by omega
    refine ⟨Int.ediv_nonneg (by omega) (by omega), ?_⟩
    rw [q1, q2]
    have q3 : (-b) * ((-a) / (-b)) = -((-a) / (-b) * b) := by rw [Int.neg_mul, Int.mul_comm]
    have q4 : (-a) / (-b) * -b = -((-a) / (-b) * b) := by rw [Int.mul_neg]
    omega
theorem abs_step {x0 x1 c : Int} (h : 0 ≤ c) : ((x0 - c * x1).natAbs : Int) ≤ (x0.natAbs : Int) + c * (x1.natAbs : Int) := by
  have z1 := Int.natAbs_sub_le x0 (c * x1)
  rw [Int.natAbs_mul] at z1
  have z2 : (c.natAbs : Int) = c := Int.natAbs_of_nonneg h
  have z3 : ((x0 - c * x1).natAbs : Int) ≤ (x0.natAbs : Int) + (c.natAbs : Int) * (x1.natAbs : Int) := by exact_mod_cast z1
  rwa [z2] at z3
theorem Gd.step {B : Int} {s : Row2} (G : Gd B s) (h : s.r1 ≠ 0) : Gd B (stepR s) := by
  obtain ⟨c0, e⟩ := same_sign h G.sg
  have lt := left_r s.r0 h
  have hx := euc_core G.bx (abs_step c0) (by omega : 0 < (s.r1.natAbs : Int)) (by rw [← e]; omega) (by omega) (by omega)
  have hy := euc_core G.b_y (abs_step c0) (by omega : 0 < (s.r1.natAbs : Int)) (by rw [← e]; omega) (by omega) (by omega)
  rw [← e] at hx hy
  have l1 := lt.1
  refine ⟨lt.2, ?_, ?_, G.r1, ?_, G.x1, hx.2, G.y1, hy.2⟩
  · show (s.r1.natAbs : Int) * ((s.x0 - s.r0.fdiv s.r1 * s.x1).natAbs : Int) + ((s.r0 - s.r0.fdiv s.r1 * s.r1).natAbs : Int) * (s.x1.natAbs : Int) ≤ B
    exact hx.1
  · show (s.r1.natAbs : Int) * ((s.y0 - s.r0.fdiv s.r1 * s.y1).natAbs : Int) + ((s.r0 - s.r0.fdiv s.r1 * s.r1).natAbs : Int) * (s.y1.natAbs : Int) ≤ B
    exact hy.1
  · show ((s.r0 - s.r0.fdiv s.r1 * s.r1).natAbs : Int) ≤ B
    have := G.r1
    omega
theorem Gd.first {one other : Int} (h : other ≠ 0) : Gd ((one.natAbs : Int) + 2 * (other.natAbs : Int) + 1) (stepR (startR one other)) := by
  have lt := left_r one h
  have fa := fdiv_abs one h
  have e : ((one.fdiv other).natAbs : Int) * (other.natAbs : Int) ≤ (one.natAbs : Int) + (other.natAbs : Int) := by
    have z := Int.natAbs_sub_le one (one - one.fdiv other * other)
    have q : one - (one - one.fdiv other * other) = one.fdiv other * other := by omega
    rw [q, Int.natAbs_mul] at z
    have l1 := lt.1
    have z2 : (one.fdiv other).natAbs * other.natAbs ≤ one.natAbs + other.natAbs := by omega
    exact_mod_cast z2
  have l1 := lt.1
  refine ⟨lt.2, ?_, ?_, ?_, ?_, ?_, ?_, ?_, ?_⟩
  · show (other.natAbs : Int) * ((1 - one.fdiv other * 0).natAbs : Int) + ((one - one.fdiv other * other).natAbs : Int) * ((0 : Int).natAbs : Int) ≤ _
    simp; omega
  · show (other.natAbs : Int) * ((0 - one.fdiv other * 1).natAbs : Int) + ((one - one.fdiv other * other).natAbs : Int) * ((1 : Int).natAbs : Int) ≤ _
    have a1 : ((0 - one.fdiv other * 1).natAbs : Int) = ((one.fdiv other).natAbs : Int) := by omega
    rw [a1, Int.mul_comm]
    have a2 : ((1 : Int).natAbs : Int) = 1 := rfl
    rw [a2, Int.mul_one]
    omega
  · show (other.natAbs : Int) ≤ _; omega
  · show ((one - one.fdiv other * other).natAbs : Int) ≤ _; omega
  · show ((0 : Int).natAbs : Int) ≤ _; omega
  · show ((1 - one.fdiv other * 0).natAbs : Int) ≤ _; simp; omega
  · show ((1 : Int).natAbs : Int) ≤ _; omega
  · show ((0 - one.fdiv other * 1).natAbs : Int) ≤ _; omega
/-! ### prime factors -/
def stripF : Nat → Nat → Nat → Nat × Nat
  | 0, l, _ => (l, 0)
  | n + 1, l, t => if l % t = 0 then ((stripF n (l / t) t).1, (stripF n (l / t) t).2 + 1) else (l, 0)
def restF (l : Nat) : List (Nat × Nat) := if 1 < l then [(l, 1)] else []
def facF : Nat → Nat → Nat → List (Nat × Nat)
  | 0, l, _ => restF l
  | n + 1, l, t => if t * t ≤ l ∧ t ≤ 1000000 then (if 0 < (stripF 41 l t).2 then [(t, (stripF 41 l t).2)] else []) ++ facF n (stripF 41 l t).1 (t + 1) else restF l
def facN (n : Nat) : List (Nat × Nat) := facF 1000000 n 2
def powF : Nat → Int → Int → Nat
  | 0, _, _ => 0
  | n + 1, l, p => if l % p = 0 then powF n (l / p) p + 1 else 0
def isP (n : Nat) : Bool := decide (2 ≤ n ∧ n ≤ 1000000) && decide (facN n = [(n, 1)])
/-- the walk of the inner loop -/
structure StI (l t : Nat) (s : Nat × Nat) : Prop where
  c : s.2 ≤ 41
  p : 0 < s.1
  b : s.1 < 2 ^ (41 - s.2)
  e : ((stripF (41 - s.2) s.1 t).1, (stripF (41 - s.2) s.1 t).2 + s.2) = stripF 41 l t
theorem StI.step {l t : Nat} {s : Nat × Nat} (I : StI l t s) (ht : 2 ≤ t) (h : s.1 % t = 0) : StI l t (s.1 / t, s.2 + 1) ∧ s.1 / t < s.1 := by
  have p := I.p
  have d : t ∣ s.1 := Nat.dvd_of_mod_eq_zero h
  have le := Nat.le_of_dvd p d
  have pos : 0 < s.1 / t := Nat.div_pos le (by omega)
  have half : s.1 / t * 2 ≤ s.1 := Nat.le_trans (Nat.mul_le_mul_left _ ht) (Nat.div_mul_le_self _ _)
  have b := I.b
  have c : s.2 < 41 := by
    by_cases z : s.2 < 41
    · exact z
    · have : 41 - s.2 = 0 := by omega
      rw [this] at b
      simp at b; omega
  obtain ⟨m, hm⟩ : ∃ m, 41 - s.2 = m + 1 := ⟨40 - s.2, by omega⟩
  have hm2 : 41 - (s.2 + 1) = m := by omega
  have e := I.e
  rw [hm] at b e
  rw [stripF, if_pos h] at e
  refine ⟨⟨by show s.2 + 1 ≤ 41; omega, pos, ?_, ?_⟩, by omega⟩
  · show s.1 / t < 2 ^ (41 - (s.2 + 1))
    rw [hm2]
    rw [Nat.pow_succ] at b
    omega
  · show ((stripF (41 - (s.2 + 1)) (s.1 / t) t).1, (stripF (41 - (s.2 + 1)) (s.1 / t) t).2 + (s.2 + 1)) = _
    rw [hm2, ← e]
    show (_, _) = (_, _)
    rw [Nat.add_right_comm, Nat.add_assoc]
theorem StI.end {l t : Nat} {s : Nat × Nat} (I : StI l t s) (h : s.1 % t ≠ 0) : stripF 41 l t = s := by
  rw [← I.e]
  have z : stripF (41 - s.2) s.1 t = (s.1, 0) := by
    cases hm : 41 - s.2 with
    | zero => rfl
    | succ m => rw [stripF, if_neg h]
  rw [z, Nat.zero_add]
theorem StI.start {l t : Nat} (p : 0 < l) (b : l ≤ 1000000000000) : StI l t (l, 0) := ⟨Nat.zero_le _, p, by show l < 2 ^ 41; omega, by simp⟩
theorem strip_le {t : Nat} (ht : 2 ≤ t) : ∀ (n l : Nat), 0 < l → 0 < (stripF n l t).1 ∧ (stripF n l t).1 ≤ l
  | 0, l, p => ⟨p, Nat.le_refl _⟩
  | n + 1, l, p => by
    rw [stripF]
    by_cases h : l % t = 0
    · rw [if_pos h]
      have le := Nat.le_of_dvd p (Nat.dvd_of_mod_eq_zero h)
      have pos : 0 < l / t := Nat.div_pos le (by omega)
      obtain ⟨k1, k2⟩ := strip_le ht n (l / t) pos
      exact ⟨k1, Nat.le_trans k2 (Nat.div_le_self _ _)⟩
    · rw [if_neg h]; exact ⟨p, Nat.le_refl _⟩
/-- the walk of the outer loop: left, tried, found -/
structure FaI (n : Nat) (s : Nat × Nat × List (Nat × Nat)) : Prop where
  t0 : 2 ≤ s.2.1
  t1 : s.2.1 ≤ 1000001
  p : 0 < s.1
  b : s.1 ≤ 1000000000000
  e : s.2.2 ++ facF (1000002 - s.2.1) s.1 s.2.1 = facF 1000000 n 2
  l : s.2.2.length + 2 ≤ s.2.1
def nextF (s : Nat × Nat × List (Nat × Nat)) : Nat × Nat × List (Nat × Nat) := ((stripF 41 s.1 s.2.1).1, s.2.1 + 1, s.2.2 ++ (if 0 < (stripF 41 s.1 s.2.1).2 then [(s.2.1, (stripF 41 s.1 s.2.1).2)] else []))
theorem FaI.step {n : Nat} {s : Nat × Nat × List (Nat × Nat)} (I : FaI n s) (h : s.2.1 * s.2.1 ≤ s.1 ∧ s.2.1 ≤ 1000000) : FaI n (nextF s) := by
  obtain ⟨l, t, acc⟩ := s
  have t0 : 2 ≤ t := I.t0
  have t1 : t ≤ 1000000 := h.2
  have hs := strip_le t0 41 l I.p
  have e := I.e
  obtain ⟨m, hm⟩ : ∃ m, 1000002 - t = m + 1 := ⟨1000001 - t, by omega⟩
  have hm2 : 1000002 - (t + 1) = m := by omega
  have e : acc ++ facF (1000002 - t) l t = facF 1000000 n 2 := I.e
  rw [hm, facF, if_pos h] at e
  refine ⟨by show 2 ≤ t + 1; omega, by show t + 1 ≤ 1000001; omega, hs.1, Nat.le_trans hs.2 I.b, ?_, ?_⟩
  · show (acc ++ _) ++ facF (1000002 - (t + 1)) (stripF 41 l t).1 (t + 1) = _
    rw [hm2, ← e, List.append_assoc]
  · show (acc ++ _).length + 2 ≤ t + 1
    have : acc.length + 2 ≤ t := I.l
    rw [List.length_append]
    split <;> simp <;> omega
theorem FaI.end {n : Nat} {s : Nat × Nat × List (Nat × Nat)} (I : FaI n s) (h : ¬ (s.2.1 * s.2.1 ≤ s.1 ∧ s.2.1 ≤ 1000000)) : s.2.2 ++ restF s.1 = facF 1000000 n 2 ∧ ¬ s.2.1 * s.2.1 ≤ s.1 := by
  constructor
  · rw [← I.e]
    congr 1
    cases hm : 1000002 - s.2.1 with
    | zero => rfl
    | succ m => rw [facF, if_neg h]
  · intro z
    have t : s.2.1 = 1000001 := by have := I.t1; omega
    have b := I.b
    rw [t] at z
    omega
theorem FaI.start {n : Nat} (p : 0 < n) (b : n ≤ 1000000000000) : FaI n (n, 2, []) := ⟨Nat.le_refl _, by show 2 ≤ 1000001; omega, p, b, by show [] ++ facF (1000002 - 2) n 2 = _; rw [List.nil_append, show 1000002 - 2 = 1000000 from by omega], Nat.le_refl _⟩
/-! ### powers -/
structure PoI (n p : Int) (s : Nat × Int) : Prop where
  c : s.1 ≤ 60
  z : s.2 ≠ 0
  b : s.2.natAbs < 2 ^ (60 - s.1)
  e : powF (60 - s.1) s.2 p + s.1 = powF 60 n p
theorem PoI.step {n p : Int} {s : Nat × Int} (I : PoI n p s) (hp : 2 ≤ p) (h : s.2 % p = 0) : PoI n p (s.1 + 1, s.2 / p) ∧ (s.2 / p).natAbs < s.2.natAbs := by
  obtain ⟨k, hk⟩ := Int.dvd_of_emod_eq_zero h
  have z := I.z
  have b := I.b
  have e := I.e
  have q : s.2 / p = k := by rw [hk]; exact Int.mul_ediv_cancel_left _ (by omega)
  have k0 : k ≠ 0 := fun w => z (by rw [hk, w, Int.mul_zero])
  have half : k.natAbs * 2 ≤ s.2.natAbs := by
    rw [hk, Int.natAbs_mul, Nat.mul_comm]
    exact Nat.mul_le_mul_right _ (by omega)
  have c : s.1 < 60 := by
    by_cases w : s.1 < 60
    · exact w
    · have : 60 - s.1 = 0 := by omega
      rw [this] at b
      simp at b; omega
  obtain ⟨m, hm⟩ : ∃ m, 60 - s.1 = m + 1 := ⟨59 - s.1, by omega⟩
  have hm2 : 60 - (s.1 + 1) = m := by omega
  rw [hm] at b e
  rw [powF, if_pos h] at e
  rw [q] at e ⊢
  refine ⟨⟨by show s.1 + 1 ≤ 60; omega, k0, ?_, ?_⟩, by omega⟩
  · show k.natAbs < 2 ^ (60 - (s.1 + 1))
    rw [hm2]
    rw [Nat.pow_succ] at b
    omega
  · show powF (60 - (s.1 + 1)) k p + (s.1 + 1) = _
    rw [hm2, ← e]; omega
theorem PoI.end {n p : Int} {s : Nat × Int} (I : PoI n p s) (h : s.2 % p ≠ 0) : s.1 = powF 60 n p := by
  rw [← I.e]
  have z : powF (60 - s.1) s.2 p = 0 := by
    cases hm : 60 - s.1 with
    | zero => rfl
    | succ m => rw [powF, if_neg h]
  rw [z, Nat.zero_add]
theorem PoI.start {n p : Int} (z : n ≠ 0) (b : n.natAbs < 2 ^ 60) : PoI n p (0, n) := ⟨Nat.zero_le _, z, b, by show powF (60 - 0) n p + 0 = _; rw [Nat.add_zero, show 60 - 0 = 60 from by omega]⟩
/-! ### lists -/
def gcdL (l : List Int) : Int := l.foldl (fun f n => ((Int.gcd f n : Nat) : Int)) 0
def absI' (n : Int) : Int := if n < 0 then -n else n
def lcmS (f n : Int) : Int := if n = 0 then 0 else if f ≠ 0 then absI' (f * n) / ((Int.gcd f n : Nat) : Int) else 0
def lcmL (l : List Int) : Int := l.foldl lcmS 1
theorem lcmS_abs {f n : Int} : (lcmS f n).natAbs ≤ f.natAbs * n.natAbs := by
  unfold lcmS absI'
  by_cases h : n = 0
  · rw [if_pos h]; exact Nat.zero_le _
  · rw [if_neg h]
    by_cases k : f ≠ 0
    · rw [if_pos k]
      refine Nat.le_trans (Int.natAbs_ediv_le_natAbs _ _) ?_
      rw [← Int.natAbs_mul]
      split <;> omega
    · rw [if_neg k]; exact Nat.zero_le _
def wrapI (n m : Int) : Int := if m = 0 then n else n % m
def divI (m n : Int) : Bool := if m = 0 then decide (n = 0) else decide (n % m = 0)
/-! ### data -/
def seqD (b : Bool) (ds : List PyData) : PyData := if b = true then .tuple ds else .list ds
def isListD : PyData → Bool
  | .tuple _ => true
  | .list _ => true
  | _ => false
abbrev sq (v : Int) : Prop := bd 400 v
section
variable {W : Wd} {Γ : Gam} {K : PySem.W.Frag} {te tb : TE} {b : Bool} {ds : List PyData} {d : PyData}
theorem ty_lenSeq (h : Ty W Γ te (dt K (seqD b ds))) : Ty W Γ (tCB (Ew.rLen K) (tCons te tNil)) (dt K (.int (ds.length : Nat))) := by
  cases b with
  | true => exact ty_cb (tya_cons h tya_nil) cbt_lenT
  | false => exact ty_cb (tya_cons h tya_nil) cbt_lenL
theorem tyi_seqD (h : Ty W Γ te (dt K (seqD b ds))) : TyI W Γ (iSeq K te) (ds.map (dt K)) := by
  cases b with
  | true => exact tyi_seqT (h.sub fun _ _ _ => data_tupT)
  | false => exact tyi_seqL (h.sub fun _ _ _ => data_lstT)
theorem opt_ixSeq {n : Nat} (e : ds[n]? = some d) : OpT W (rIx K) (dt K (seqD b ds)) (dt K (.int (n : Nat))) (dt K d) := by
  cases b with
  | true => exact opt_ixT (atI_nat e)
  | false => exact opt_ixL (atI_nat e)
end
theorem bnot1 {b : Bool} (z : true = !b) : b = false := by cases b <;> simp at z ⊢
theorem bnot0 {b : Bool} (z : false = !b) : b = true := by cases b <;> simp at z ⊢
theorem any_sub {W : Wd} {Γ : Gam} {te : TE} {T : Typ} {Ts : List Typ} (h : Ty W Γ te (anyT Ts)) (k : ∀ n, n < Ts.length → ∀ v H, (Ts.getD n (isV .non)).at W v H → T.at W v H) : Ty W Γ te T := h.sub fun v H _ ⟨n, hn, z⟩ => k n hn v H z
theorem rep_getD {T : Typ} {n m : Nat} (h : n < m) : (List.replicate m T).getD n (isV .non) = T := by
  rw [List.getD_eq_getElem?_getD, List.getElem?_replicate, if_pos h]; rfl
theorem map_const {α : Type} (T : Typ) : ∀ l : List α, l.map (fun _ => T) = List.replicate l.length T
  | [] => rfl
  | _ :: l => by rw [List.map_cons, map_const T l]; rfl
theorem tysv4 {M B : Addr → Prop} {A1 A2 A3 A4 : Typ} {us : List V} {H : Hp} (h : TysV M B [A1, A2, A3, A4] us H) : ∃ a b c d, us = [a, b, c, d] ∧ A1.p M B a H ∧ A2.p M B b H ∧ A3.p M B c H ∧ A4.p M B d H := by
  match us, h with
  | [a, b, c, d], h => exact ⟨a, b, c, d, rfl, h.1, h.2.1, h.2.2.1, h.2.2.2.1⟩
def wI : PyData → Int
  | .int n => n
  | _ => 0
def itemsD : PyData → List PyData
  | .list ds => ds
  | .tuple ds => ds
  | _ => []
def numsOk (d : PyData) : Bool := isListD d && (itemsD d).all isWholeD
def modOk : PyData → Bool
  | .int m => decide (0 ≤ m)
  | _ => false
def mod1 : PyData → Bool
  | .int m => decide (1 ≤ m)
  | _ => false
theorem whole_int {d : PyData} (h : isWholeD d = true) : ∃ n, d = .int n := by
  cases d <;> simp [isWholeD] at h
  exact ⟨_, rfl⟩
theorem wholes {ds : List PyData} (h : ds.all isWholeD = true) : ds = (ds.map wI).map .int := by
  rw [List.map_map]
  refine (List.map_id ds).symm.trans (List.map_congr_left fun d hd => ?_)
  obtain ⟨n, rfl⟩ := whole_int (List.all_eq_true.mp h d hd)
  rfl
theorem list_form {d : PyData} (h : isListD d = true) : ∃ b ds, d = seqD b ds ∧ itemsD d = ds := by
  cases d <;> simp [isListD] at h
  · exact ⟨false, _, rfl, rfl⟩
  · exact ⟨true, _, rfl, rfl⟩
theorem nums_form {d : PyData} (h : numsOk d = true) : ∃ (b : Bool) (l : List Int), d = seqD b (l.map .int) := by
  unfold numsOk at h
  rw [Bool.and_eq_true] at h
  obtain ⟨b, ds, rfl, e⟩ := list_form h.1
  rw [e] at h
  exact ⟨b, ds.map wI, by rw [← wholes h.2]⟩
inductive Cls
  | num
  | nums
  | mod
  | pri
def Cls.tag : Cls → Str
  | .num => "number"
  | .nums => "numbers"
  | .mod => "modulus"
  | .pri => "prime"
theorem bfalse {b : Bool} (h : b = false) : ¬ b = true := by rw [h]; exact Bool.false_ne_true
theorem take_snoc {α : Type} {l : List α} {i : Nat} {x : α} (h : l[i]? = some x) : l.take (i + 1) = l.take i ++ [x] := by
  rw [List.take_add_one, h]; rfl
theorem tyi_seqA {W : Wd} {Γ : Gam} {K : PySem.W.Frag} {te : TE} {b : Bool} {α : Type} {xs : List α} {f : α → PyData} (h : Ty W Γ te (dt K (seqD b (xs.map f)))) : TyI W Γ (iSeq K te) (xs.map fun x => dt K (f x)) := by
  have z := tyi_seqD h
  rw [List.map_map] at z
  exact z
theorem tyg_tri {W : Wd} {Γ : Gam} {K : PySem.W.Frag} {i j k : Nat} {a b c : Int} : TyG W Γ (gTup K 3 (gCons (gName i) (gCons (gName j) (gCons (gName k) gNil)))) (dt K (intsD [a, b, c])) (((Γ.set i (some (dt K (.int a)))).set j (some (dt K (.int b)))).set k (some (dt K (.int c)))) :=
  (tyg_tup (Ts := [dt K (.int a), dt K (.int b), dt K (.int c)]) (tygs_cons (tyg_name i) (tygs_cons (tyg_name j) (tygs_cons (tyg_name k) tygs_nil)))).sub fun v H z => data_tupT (ds := [.int a, .int b, .int c]) z
theorem some_none {α : Type} {c : Prop} [Decidable c] {x : α} (h : (if c then none else some x) = none) : c := by
  by_cases k : c
  · exact k
  · rw [if_neg k] at h; cases h
def top (i : Nat) : Stmt := PySem.Challenge.pw_everywrap_k01_rests_divisors_primes.main.body.getD i (.Pass ⟨0, 0, 0, 0⟩)
abbrev s_is_whole : Stmt := top 9
abbrev s_is_between : Stmt := top 10
abbrev s_is_list : Stmt := top 11
abbrev s_check_number : Stmt := top 12
abbrev s_check_modulus : Stmt := top 13
abbrev s_wrapped : Stmt := top 14
abbrev s_divides : Stmt := top 15
abbrev s_common_of : Stmt := top 16
abbrev s_shared : Stmt := top 17
abbrev s_inverse_in : Stmt := top 18
abbrev s_rest : Stmt := top 19
abbrev s_same : Stmt := top 20
abbrev s_check_numbers : Stmt := top 21
abbrev s_common : Stmt := top 22
abbrev s_least_multiple : Stmt := top 23
abbrev s_bezout : Stmt := top 24
abbrev s_inverse : Stmt := top 25
abbrev s_factors_of : Stmt := top 26
abbrev s_primes_in : Stmt := top 27
abbrev s_is_prime : Stmt := top 28
abbrev s_power_in : Stmt := top 29
abbrev s_valuation : Stmt := top 30
abbrev s_law_box : Stmt := top 32
abbrev s_law_take : Stmt := top 33
abbrev s_law_cell : Stmt := top 34
abbrev s_law_common : Stmt := top 35
abbrev s_law_all_common : Stmt := top 36
abbrev s_law_same : Stmt := top 37
abbrev s_law_integer : Stmt := top 38
abbrev s_law_modulus : Stmt := top 39
abbrev s_law_left : Stmt := top 40
abbrev s_law_still : Stmt := top 41
abbrev s_law_call : Stmt := top 42
abbrev s_law_multiple : Stmt := top 43
abbrev s_law_numbers_right : Stmt := top 44
abbrev s_law_lists_right : Stmt := top 45
abbrev s_law_primes_right : Stmt := top 46
abbrev s_law_refused_right : Stmt := top 47
abbrev s_law_scene_right : Stmt := top 48
abbrev s_law : Stmt := top 49
theorem sc_is_whole : FnScope ["value"] ["value"] (defScope s_is_whole) := ⟨rfl, rfl, rfl, by decide +kernel, rfl, by decide +kernel, by decide +kernel⟩
theorem sc_is_between : FnScope ["value", "least", "most"] ["value", "least", "most"] (defScope s_is_between) := ⟨rfl, rfl, rfl, by decide +kernel, rfl, by decide +kernel, by decide +kernel⟩
theorem sc_is_list : FnScope ["value"] ["value"] (defScope s_is_list) := ⟨rfl, rfl, rfl, by decide +kernel, rfl, by decide +kernel, by decide +kernel⟩
theorem sc_check_number : FnScope ["number"] ["number"] (defScope s_check_number) := ⟨rfl, rfl, rfl, by decide +kernel, rfl, by decide +kernel, by decide +kernel⟩
theorem sc_check_modulus : FnScope ["modulus"] ["modulus"] (defScope s_check_modulus) := ⟨rfl, rfl, rfl, by decide +kernel, rfl, by decide +kernel, by decide +kernel⟩
theorem sc_wrapped : FnScope ["number", "modulus"] ["number", "modulus"] (defScope s_wrapped) := ⟨rfl, rfl, rfl, by decide +kernel, rfl, by decide +kernel, by decide +kernel⟩
theorem sc_divides : FnScope ["modulus", "number"] ["modulus", "number"] (defScope s_divides) := ⟨rfl, rfl, rfl, by decide +kernel, rfl, by decide +kernel, by decide +kernel⟩
theorem sc_common_of : FnScope ["numbers", "found", "number"] ["numbers"] (defScope s_common_of) := ⟨rfl, rfl, rfl, by decide +kernel, rfl, by decide +kernel, by decide +kernel⟩
theorem sc_shared : FnScope ["one", "other", "rows", "count", "here", "there", "item"] ["one", "other"] (defScope s_shared) := ⟨rfl, rfl, rfl, by decide +kernel, rfl, by decide +kernel, by decide +kernel⟩
theorem sc_inverse_in : FnScope ["number", "modulus", "common", "share", "_"] ["number", "modulus"] (defScope s_inverse_in) := ⟨rfl, rfl, rfl, by decide +kernel, rfl, by decide +kernel, by decide +kernel⟩
theorem sc_rest : FnScope ["number", "modulus"] ["number", "modulus"] (defScope s_rest) := ⟨rfl, rfl, rfl, by decide +kernel, rfl, by decide +kernel, by decide +kernel⟩
theorem sc_same : FnScope ["one", "other", "modulus", "number"] ["one", "other", "modulus"] (defScope s_same) := ⟨rfl, rfl, rfl, by decide +kernel, rfl, by decide +kernel, by decide +kernel⟩
theorem sc_check_numbers : FnScope ["numbers", "number"] ["numbers"] (defScope s_check_numbers) := ⟨rfl, rfl, rfl, by decide +kernel, rfl, by decide +kernel, by decide +kernel⟩
theorem sc_common : FnScope ["numbers"] ["numbers"] (defScope s_common) := ⟨rfl, rfl, rfl, by decide +kernel, rfl, by decide +kernel, by decide +kernel⟩
theorem sc_least_multiple : FnScope ["numbers", "found", "number"] ["numbers"] (defScope s_least_multiple) := ⟨rfl, rfl, rfl, by decide +kernel, rfl, by decide +kernel, by decide +kernel⟩
theorem sc_bezout : FnScope ["one", "other", "number"] ["one", "other"] (defScope s_bezout) := ⟨rfl, rfl, rfl, by decide +kernel, rfl, by decide +kernel, by decide +kernel⟩
theorem sc_inverse : FnScope ["number", "modulus"] ["number", "modulus"] (defScope s_inverse) := ⟨rfl, rfl, rfl, by decide +kernel, rfl, by decide +kernel, by decide +kernel⟩
theorem sc_factors_of : FnScope ["number", "found", "left", "tried", "count"] ["number"] (defScope s_factors_of) := ⟨rfl, rfl, rfl, by decide +kernel, rfl, by decide +kernel, by decide +kernel⟩
theorem sc_primes_in : FnScope ["number"] ["number"] (defScope s_primes_in) := ⟨rfl, rfl, rfl, by decide +kernel, rfl, by decide +kernel, by decide +kernel⟩
theorem sc_is_prime : FnScope ["value"] ["value"] (defScope s_is_prime) := ⟨rfl, rfl, rfl, by decide +kernel, rfl, by decide +kernel, by decide +kernel⟩
theorem sc_power_in : FnScope ["number", "prime", "found", "left"] ["number", "prime"] (defScope s_power_in) := ⟨rfl, rfl, rfl, by decide +kernel, rfl, by decide +kernel, by decide +kernel⟩
theorem sc_valuation : FnScope ["number", "prime"] ["number", "prime"] (defScope s_valuation) := ⟨rfl, rfl, rfl, by decide +kernel, rfl, by decide +kernel, by decide +kernel⟩
theorem sc_law_box : FnScope ["great"] ["great"] (defScope s_law_box) := ⟨rfl, rfl, rfl, by decide +kernel, rfl, by decide +kernel, by decide +kernel⟩
theorem sc_law_take : FnScope ["box", "many", "digit"] ["box", "many"] (defScope s_law_take) := ⟨rfl, rfl, rfl, by decide +kernel, rfl, by decide +kernel, by decide +kernel⟩
theorem sc_law_cell : FnScope ["script", "k"] ["script", "k"] (defScope s_law_cell) := ⟨rfl, rfl, rfl, by decide +kernel, rfl, by decide +kernel, by decide +kernel⟩
theorem sc_law_common : FnScope ["a", "b"] ["a", "b"] (defScope s_law_common) := ⟨rfl, rfl, rfl, by decide +kernel, rfl, by decide +kernel, by decide +kernel⟩
theorem sc_law_all_common : FnScope ["numbers", "found", "number"] ["numbers"] (defScope s_law_all_common) := ⟨rfl, rfl, rfl, by decide +kernel, rfl, by decide +kernel, by decide +kernel⟩
theorem sc_law_same : FnScope ["told", "due", "alike", "k"] ["told", "due"] (defScope s_law_same) := ⟨rfl, rfl, rfl, by decide +kernel, rfl, by decide +kernel, by decide +kernel⟩
theorem sc_law_integer : FnScope ["box", "way", "number", "turn"] ["box"] (defScope s_law_integer) := ⟨rfl, rfl, rfl, by decide +kernel, rfl, by decide +kernel, by decide +kernel⟩
theorem sc_law_modulus : FnScope ["box"] ["box"] (defScope s_law_modulus) := ⟨rfl, rfl, rfl, by decide +kernel, rfl, by decide +kernel, by decide +kernel⟩
theorem sc_law_left : FnScope ["number", "modulus"] ["number", "modulus"] (defScope s_law_left) := ⟨rfl, rfl, rfl, by decide +kernel, rfl, by decide +kernel, by decide +kernel⟩
theorem sc_law_still : FnScope ["told", "due", "key", "k"] ["told", "due"] (defScope s_law_still) := ⟨rfl, rfl, rfl, by decide +kernel, rfl, by decide +kernel, by decide +kernel⟩
theorem sc_law_call : FnScope ["which", "a", "named", "e"] ["which", "a", "named"] (defScope s_law_call) := ⟨rfl, rfl, rfl, by decide +kernel, rfl, by decide +kernel, by decide +kernel⟩
theorem sc_law_multiple : FnScope ["numbers", "found", "number"] ["numbers"] (defScope s_law_multiple) := ⟨rfl, rfl, rfl, by decide +kernel, rfl, by decide +kernel, by decide +kernel⟩
theorem sc_law_numbers_right : FnScope ["box", "named", "one", "modulus", "other", "due", "given", "told", "item", "d", "a", "b", "found"] ["box", "named"] (defScope s_law_numbers_right) := ⟨rfl, rfl, rfl, by decide +kernel, rfl, by decide +kernel, by decide +kernel⟩
theorem sc_law_lists_right : FnScope ["box", "named", "factor", "numbers", "turn", "number", "due", "some", "given"] ["box", "named"] (defScope s_law_lists_right) := ⟨rfl, rfl, rfl, by decide +kernel, rfl, by decide +kernel, by decide +kernel⟩
theorem sc_law_primes_right : FnScope ["box", "named", "counts", "prime", "number", "turn", "due", "signed", "given", "small", "is_one", "k", "values", "dues", "value"] ["box", "named"] (defScope s_law_primes_right) := ⟨rfl, rfl, rfl, by decide +kernel, rfl, by decide +kernel, by decide +kernel⟩
theorem sc_law_refused_right : FnScope ["box", "named", "bad", "good", "wrong", "numbers", "rows", "value", "which", "args", "due", "told"] ["box", "named"] (defScope s_law_refused_right) := ⟨rfl, rfl, rfl, by decide +kernel, rfl, by decide +kernel, by decide +kernel⟩
theorem sc_law_scene_right : FnScope ["box", "named"] ["box", "named"] (defScope s_law_scene_right) := ⟨rfl, rfl, rfl, by decide +kernel, rfl, by decide +kernel, by decide +kernel⟩
theorem sc_law : FnScope ["script", "k", "box", "named"] ["script"] (defScope s_law) := ⟨rfl, rfl, rfl, by decide +kernel, rfl, by decide +kernel, by decide +kernel⟩
structure Tx (P : Program) (K : PySem.W.Frag) (mg : Str → Option Value) where
  a_is_whole : Addr
  f_is_whole : FuncData
  F_is_whole : Fun K "is_whole" "is_whole" s_is_whole a_is_whole f_is_whole
  D_is_whole : Defn K mg "is_whole" a_is_whole f_is_whole ["value"]
  a_is_between : Addr
  f_is_between : FuncData
  F_is_between : Fun K "is_between" "is_between" s_is_between a_is_between f_is_between
  D_is_between : Defn K mg "is_between" a_is_between f_is_between ["value", "least", "most"]
  a_is_list : Addr
  f_is_list : FuncData
  F_is_list : Fun K "is_list" "is_list" s_is_list a_is_list f_is_list
  D_is_list : Defn K mg "is_list" a_is_list f_is_list ["value"]
  a_check_number : Addr
  f_check_number : FuncData
  F_check_number : Fun K "check_number" "check_number" s_check_number a_check_number f_check_number
  D_check_number : Defn K mg "check_number" a_check_number f_check_number ["number"]
  a_check_modulus : Addr
  f_check_modulus : FuncData
  F_check_modulus : Fun K "check_modulus" "check_modulus" s_check_modulus a_check_modulus f_check_modulus
  D_check_modulus : Defn K mg "check_modulus" a_check_modulus f_check_modulus ["modulus"]
  a_wrapped : Addr
  f_wrapped : FuncData
  F_wrapped : Fun K "wrapped" "wrapped" s_wrapped a_wrapped f_wrapped
  D_wrapped : Defn K mg "wrapped" a_wrapped f_wrapped ["number", "modulus"]
  a_divides : Addr
  f_divides : FuncData
  F_divides : Fun K "divides" "divides" s_divides a_divides f_divides
  D_divides : Defn K mg "divides" a_divides f_divides ["modulus", "number"]
  a_common_of : Addr
  f_common_of : FuncData
  F_common_of : Fun K "common_of" "common_of" s_common_of a_common_of f_common_of
  D_common_of : Defn K mg "common_of" a_common_of f_common_of ["numbers"]
  a_shared : Addr
  f_shared : FuncData
  F_shared : Fun K "shared" "shared" s_shared a_shared f_shared
  D_shared : Defn K mg "shared" a_shared f_shared ["one", "other"]
  a_inverse_in : Addr
  f_inverse_in : FuncData
  F_inverse_in : Fun K "inverse_in" "inverse_in" s_inverse_in a_inverse_in f_inverse_in
  D_inverse_in : Defn K mg "inverse_in" a_inverse_in f_inverse_in ["number", "modulus"]
  a_rest : Addr
  f_rest : FuncData
  F_rest : Fun K "rest" "rest" s_rest a_rest f_rest
  D_rest : Defn K mg "rest" a_rest f_rest ["number", "modulus"]
  a_same : Addr
  f_same : FuncData
  F_same : Fun K "same" "same" s_same a_same f_same
  D_same : Defn K mg "same" a_same f_same ["one", "other", "modulus"]
  a_check_numbers : Addr
  f_check_numbers : FuncData
  F_check_numbers : Fun K "check_numbers" "check_numbers" s_check_numbers a_check_numbers f_check_numbers
  D_check_numbers : Defn K mg "check_numbers" a_check_numbers f_check_numbers ["numbers"]
  a_common : Addr
  f_common : FuncData
  F_common : Fun K "common" "common" s_common a_common f_common
  D_common : Defn K mg "common" a_common f_common ["numbers"]
  a_least_multiple : Addr
  f_least_multiple : FuncData
  F_least_multiple : Fun K "least_multiple" "least_multiple" s_least_multiple a_least_multiple f_least_multiple
  D_least_multiple : Defn K mg "least_multiple" a_least_multiple f_least_multiple ["numbers"]
  a_bezout : Addr
  f_bezout : FuncData
  F_bezout : Fun K "bezout" "bezout" s_bezout a_bezout f_bezout
  D_bezout : Defn K mg "bezout" a_bezout f_bezout ["one", "other"]
  a_inverse : Addr
  f_inverse : FuncData
  F_inverse : Fun K "inverse" "inverse" s_inverse a_inverse f_inverse
  D_inverse : Defn K mg "inverse" a_inverse f_inverse ["number", "modulus"]
  a_factors_of : Addr
  f_factors_of : FuncData
  F_factors_of : Fun K "factors_of" "factors_of" s_factors_of a_factors_of f_factors_of
  D_factors_of : Defn K mg "factors_of" a_factors_of f_factors_of ["number"]
  a_primes_in : Addr
  f_primes_in : FuncData
  F_primes_in : Fun K "primes_in" "primes_in" s_primes_in a_primes_in f_primes_in
  D_primes_in : Defn K mg "primes_in" a_primes_in f_primes_in ["number"]
  a_is_prime : Addr
  f_is_prime : FuncData
  F_is_prime : Fun K "is_prime" "is_prime" s_is_prime a_is_prime f_is_prime
  D_is_prime : Defn K mg "is_prime" a_is_prime f_is_prime ["value"]
  a_power_in : Addr
  f_power_in : FuncData
  F_power_in : Fun K "power_in" "power_in" s_power_in a_power_in f_power_in
  D_power_in : Defn K mg "power_in" a_power_in f_power_in ["number", "prime"]
  a_valuation : Addr
  f_valuation : FuncData
  F_valuation : Fun K "valuation" "valuation" s_valuation a_valuation f_valuation
  D_valuation : Defn K mg "valuation" a_valuation f_valuation ["number", "prime"]
  a_law_box : Addr
  f_law_box : FuncData
  F_law_box : Fun K "_law_box" "_law_box" s_law_box a_law_box f_law_box
  D_law_box : Defn K mg "_law_box" a_law_box f_law_box ["great"]
  a_law_take : Addr
  f_law_take : FuncData
  F_law_take : Fun K "_law_take" "_law_take" s_law_take a_law_take f_law_take
  D_law_take : Defn K mg "_law_take" a_law_take f_law_take ["box", "many"]
  a_law_cell : Addr
  f_law_cell : FuncData
  F_law_cell : Fun K "_law_cell" "_law_cell" s_law_cell a_law_cell f_law_cell
  D_law_cell : Defn K mg "_law_cell" a_law_cell f_law_cell ["script", "k"]
  a_law_common : Addr
  f_law_common : FuncData
  F_law_common : Fun K "_law_common" "_law_common" s_law_common a_law_common f_law_common
  D_law_common : Defn K mg "_law_common" a_law_common f_law_common ["a", "b"]
  a_law_all_common : Addr
  f_law_all_common : FuncData
  F_law_all_common : Fun K "_law_all_common" "_law_all_common" s_law_all_common a_law_all_common f_law_all_common
  D_law_all_common : Defn K mg "_law_all_common" a_law_all_common f_law_all_common ["numbers"]
  a_law_same : Addr
  f_law_same : FuncData
  F_law_same : Fun K "_law_same" "_law_same" s_law_same a_law_same f_law_same
  D_law_same : Defn K mg "_law_same" a_law_same f_law_same ["told", "due"]
  a_law_integer : Addr
  f_law_integer : FuncData
  F_law_integer : Fun K "_law_integer" "_law_integer" s_law_integer a_law_integer f_law_integer
  D_law_integer : Defn K mg "_law_integer" a_law_integer f_law_integer ["box"]
  a_law_modulus : Addr
  f_law_modulus : FuncData
  F_law_modulus : Fun K "_law_modulus" "_law_modulus" s_law_modulus a_law_modulus f_law_modulus
  D_law_modulus : Defn K mg "_law_modulus" a_law_modulus f_law_modulus ["box"]
  a_law_left : Addr
  f_law_left : FuncData
  F_law_left : Fun K "_law_left" "_law_left" s_law_left a_law_left f_law_left
  D_law_left : Defn K mg "_law_left" a_law_left f_law_left ["number", "modulus"]
  a_law_still : Addr
  f_law_still : FuncData
  F_law_still : Fun K "_law_still" "_law_still" s_law_still a_law_still f_law_still
  D_law_still : Defn K mg "_law_still" a_law_still f_law_still ["told", "due"]
  a_law_call : Addr
  f_law_call : FuncData
  F_law_call : Fun K "_law_call" "_law_call" s_law_call a_law_call f_law_call
  D_law_call : Defn K mg "_law_call" a_law_call f_law_call ["which", "a", "named"]
  a_law_multiple : Addr
  f_law_multiple : FuncData
  F_law_multiple : Fun K "_law_multiple" "_law_multiple" s_law_multiple a_law_multiple f_law_multiple
  D_law_multiple : Defn K mg "_law_multiple" a_law_multiple f_law_multiple ["numbers"]
  a_law_numbers_right : Addr
  f_law_numbers_right : FuncData
  F_law_numbers_right : Fun K "_law_numbers_right" "_law_numbers_right" s_law_numbers_right a_law_numbers_right f_law_numbers_right
  D_law_numbers_right : Defn K mg "_law_numbers_right" a_law_numbers_right f_law_numbers_right ["box", "named"]
  a_law_lists_right : Addr
  f_law_lists_right : FuncData
  F_law_lists_right : Fun K "_law_lists_right" "_law_lists_right" s_law_lists_right a_law_lists_right f_law_lists_right
  D_law_lists_right : Defn K mg "_law_lists_right" a_law_lists_right f_law_lists_right ["box", "named"]
  a_law_primes_right : Addr
  f_law_primes_right : FuncData
  F_law_primes_right : Fun K "_law_primes_right" "_law_primes_right" s_law_primes_right a_law_primes_right f_law_primes_right
  D_law_primes_right : Defn K mg "_law_primes_right" a_law_primes_right f_law_primes_right ["box", "named"]
  a_law_refused_right : Addr
  f_law_refused_right : FuncData
  F_law_refused_right : Fun K "_law_refused_right" "_law_refused_right" s_law_refused_right a_law_refused_right f_law_refused_right
  D_law_refused_right : Defn K mg "_law_refused_right" a_law_refused_right f_law_refused_right ["box", "named"]
  a_law_scene_right : Addr
  f_law_scene_right : FuncData
  F_law_scene_right : Fun K "_law_scene_right" "_law_scene_right" s_law_scene_right a_law_scene_right f_law_scene_right
  D_law_scene_right : Defn K mg "_law_scene_right" a_law_scene_right f_law_scene_right ["box", "named"]
  a_law : Addr
  f_law : FuncData
  F_law : Fun K "law" "law" s_law a_law f_law
  D_law : Defn K mg "law" a_law f_law ["script"]
  B_valuation : KB K f_valuation ["number", "prime"] ["prime", "number"] List.reverse List.reverse
  B_is_prime : KB K f_is_prime ["value"] ["value"] id id
  B_rest : KB K f_rest ["number", "modulus"] ["modulus", "number"] List.reverse List.reverse
  B_same : KB K f_same ["one", "other", "modulus"] ["modulus", "other", "one"] List.reverse List.reverse
  B_common : KB K f_common ["numbers"] ["numbers"] id id
  B_least_multiple : KB K f_least_multiple ["numbers"] ["numbers"] id id
  B_bezout : KB K f_bezout ["one", "other"] ["other", "one"] List.reverse List.reverse
  B_inverse : KB K f_inverse ["number", "modulus"] ["modulus", "number"] List.reverse List.reverse
  B_primes_in : KB K f_primes_in ["number"] ["number"] id id
  aW : Addr
  fW : Addr
  base : PySem.WrX.BaseTxt P K mg aW fW
  a_InvalidNumber : Addr
  c_InvalidNumber : PySem.WrX.ClsTxt K mg "InvalidNumber" aW fW a_InvalidNumber
  x_InvalidNumber : XfC K a_InvalidNumber
  a_InvalidNumbers : Addr
  c_InvalidNumbers : PySem.WrX.ClsTxt K mg "InvalidNumbers" aW fW a_InvalidNumbers
  x_InvalidNumbers : XfC K a_InvalidNumbers
  a_InvalidModulus : Addr
  c_InvalidModulus : PySem.WrX.ClsTxt K mg "InvalidModulus" aW fW a_InvalidModulus
  x_InvalidModulus : XfC K a_InvalidModulus
  a_InvalidPrime : Addr
  c_InvalidPrime : PySem.WrX.ClsTxt K mg "InvalidPrime" aW fW a_InvalidPrime
  x_InvalidPrime : XfC K a_InvalidPrime
  e_InvalidNumber_InvalidNumber : PySem.W.exmOne K (.ref a_InvalidNumber) (.ref a_InvalidNumber) = some true
  e_InvalidNumber_InvalidNumbers : PySem.W.exmOne K (.ref a_InvalidNumber) (.ref a_InvalidNumbers) = some false
  e_InvalidNumber_InvalidModulus : PySem.W.exmOne K (.ref a_InvalidNumber) (.ref a_InvalidModulus) = some false
  e_InvalidNumber_InvalidPrime : PySem.W.exmOne K (.ref a_InvalidNumber) (.ref a_InvalidPrime) = some false
  e_InvalidNumbers_InvalidNumber : PySem.W.exmOne K (.ref a_InvalidNumbers) (.ref a_InvalidNumber) = some false
  e_InvalidNumbers_InvalidNumbers : PySem.W.exmOne K (.ref a_InvalidNumbers) (.ref a_InvalidNumbers) = some true
  e_InvalidNumbers_InvalidModulus : PySem.W.exmOne K (.ref a_InvalidNumbers) (.ref a_InvalidModulus) = some false
  e_InvalidNumbers_InvalidPrime : PySem.W.exmOne K (.ref a_InvalidNumbers) (.ref a_InvalidPrime) = some false
  e_InvalidModulus_InvalidNumber : PySem.W.exmOne K (.ref a_InvalidModulus) (.ref a_InvalidNumber) = some false
  e_InvalidModulus_InvalidNumbers : PySem.W.exmOne K (.ref a_InvalidModulus) (.ref a_InvalidNumbers) = some false
  e_InvalidModulus_InvalidModulus : PySem.W.exmOne K (.ref a_InvalidModulus) (.ref a_InvalidModulus) = some true
  e_InvalidModulus_InvalidPrime : PySem.W.exmOne K (.ref a_InvalidModulus) (.ref a_InvalidPrime) = some false
  e_InvalidPrime_InvalidNumber : PySem.W.exmOne K (.ref a_InvalidPrime) (.ref a_InvalidNumber) = some false
  e_InvalidPrime_InvalidNumbers : PySem.W.exmOne K (.ref a_InvalidPrime) (.ref a_InvalidNumbers) = some false
  e_InvalidPrime_InvalidModulus : PySem.W.exmOne K (.ref a_InvalidPrime) (.ref a_InvalidModulus) = some false
  e_InvalidPrime_InvalidPrime : PySem.W.exmOne K (.ref a_InvalidPrime) (.ref a_InvalidPrime) = some true
  m_isinstance : mg "isinstance" = none
  m_int : mg "int" = none
  m_bool : mg "bool" = none
  m_str : mg "str" = none
  m_list : mg "list" = none
  m_tuple : mg "tuple" = none
  m_dict : mg "dict" = none
  m_len : mg "len" = none
  m_all : mg "all" = none
  m_sum : mg "sum" = none
  m_zip : mg "zip" = none
  m_range : mg "range" = none
  m_abs : mg "abs" = none
  m_max : mg "max" = none
  m_min : mg "min" = none
  m_sorted : mg "sorted" = none
  m_gcd : mg "gcd" = some (.builtin "math.gcd")
  g_MOST_TRIED : ∃ tk, mg "MOST_TRIED" = some (.int 1000000 tk)
section
variable {P : Program} {w : World} {K : PySem.W.Frag} {mg : Str → Option Value} {base : Heap}
def sp_is_whole (K : PySem.W.Frag) : Sp := spT (fun _ : PyData => True) (fun d => [dt K d]) (fun d => dt K (.bool (isWholeD d)))
theorem ok_is_whole (T : Tx P K mg) : FnOk P w K mg base (L2.CX P w) 1 T.a_is_whole T.f_is_whole ["value"] (sp_is_whole K) := by
  have nd := sc_is_whole.nd
  refine fn_ty T.F_is_whole sc_is_whole (fun x _ => rfl) fun cdv Ar outer s H E hr => ⟨_, (pss_one (ps_ret (pe_and (k_isi (K := K) rfl T.m_isinstance (pa_cons (pv 0) (pa_cons (bt_int T.m_int) pa_nil))) (pe_one (pe_not (k_isi (K := K) rfl T.m_isinstance (pa_cons (pv 0) (pa_cons (bt_bool T.m_bool) pa_nil)))))))), fun W x hC => ?_⟩
  refine' TyS.never (tys_retW (Ty.is ?h ?k))
  case h => tm_at "ty"
  case k => cases x <;> rfl
end
section
variable {P : Program} {w : World} {K : PySem.W.Frag} {mg : Str → Option Value} {base : Heap}
def betD (d : PyData) (a b : Int) : Bool := match d with
  | .int n => decide (a ≤ n) && decide (n ≤ b)
  | _ => false
def sp_is_between (K : PySem.W.Frag) : Sp := spT (fun _ : PyData × Int × Int => True) (fun x => [dt K x.1, dt K (.int x.2.1), dt K (.int x.2.2)]) (fun x => dt K (.bool (betD x.1 x.2.1 x.2.2)))
theorem ok_is_between (T : Tx P K mg) : FnOk P w K mg base (L2.CX P w) 2 T.a_is_between T.f_is_between ["value", "least", "most"] (sp_is_between K) := by
  have G_is_whole := ok_is_whole (w := w) (base := base) T
  have nd := sc_is_between.nd
  refine fn_ty T.F_is_between sc_is_between (fun x _ => rfl) fun cdv Ar outer s H E hr => ⟨_, (pss_one (ps_ret (pe_and (pcall G_is_whole (hr.mono (by decide)) T.D_is_whole (pa_cons (pv 0) pa_nil)) (pe_one (pe_chain op_le op_le (pv 1) (pv 0) (pv 2)))))), fun W x hC => ?_⟩
  obtain ⟨d, a, b⟩ := x
  refine TyS.never (tys_retW ?_)
  cases d with
  | int n => exact Ty.is (ty_andV (a := true) (b := decide (a ≤ n) && decide (n ≤ b)) (Ty.is (ty_call (PyData.int n) trivial (by tm_at "tya")) rfl) fun _ => ty_chain (ty_var rfl) (ty_var rfl) opt_le (fun _ => ty_var rfl) opt_le) rfl
  | _ => exact ty_andF (Ty.is (ty_call _ trivial (by tm_at "tya")) rfl)
end
section
variable {P : Program} {w : World} {K : PySem.W.Frag} {mg : Str → Option Value} {base : Heap}
def sp_is_list (K : PySem.W.Frag) : Sp := spT (fun _ : PyData => True) (fun d => [dt K d]) (fun d => dt K (.bool (isListD d)))
theorem ok_is_list (T : Tx P K mg) : FnOk P w K mg base (L2.CX P w) 1 T.a_is_list T.f_is_list ["value"] (sp_is_list K) := by
  have nd := sc_is_list.nd
  refine fn_ty T.F_is_list sc_is_list (fun x _ => rfl) fun cdv Ar outer s H E hr => ⟨_, (pss_one (ps_ret (k_isi2 (K := K) rfl T.m_isinstance (pa_cons (pv 0) (pa_cons (pe_tup (pa_cons (bt_list T.m_list) (pa_cons (bt_tuple T.m_tuple) pa_nil))) pa_nil))))), fun W x hC => ?_⟩
  refine TyS.never (tys_retW (Ty.is (ty_isi2 (ty_var rfl) (by decide) (by decide)) ?_))
  cases x <;> rfl
end
section
variable {P : Program} {w : World} {K : PySem.W.Frag} {mg : Str → Option Value} {base : Heap}
def Tx.cls {P : Program} {K : PySem.W.Frag} {mg : Str → Option Value} (T : Tx P K mg) : Cls → Addr
  | .num => T.a_InvalidNumber
  | .nums => T.a_InvalidNumbers
  | .mod => T.a_InvalidModulus
  | .pri => T.a_InvalidPrime
def badO {P : Program} {K : PySem.W.Frag} {mg : Str → Option Value} (T : Tx P K mg) (b : Option (Cls × PyData)) : Option Bad := b.map fun p => ⟨T.cls p.1, flG, dt K p.2⟩
theorem badO_none {P : Program} {K : PySem.W.Frag} {mg : Str → Option Value} {T : Tx P K mg} {b : Option (Cls × PyData)} (h : badO T b = none) : b = none := by
  cases b with
  | none => rfl
  | some p => cases h
def bNum (d : PyData) : Option (Cls × PyData) := if isWholeD d = true then none else some (.num, d)
theorem bNum_none {d : PyData} (h : bNum d = none) : isWholeD d = true := some_none h
def sp_check_number (T : Tx P K mg) : Sp := spX (fun _ : PyData => True) (fun d => [dt K d]) (fun _ => rT (dt K .none)) (fun d => badO T (bNum d))
theorem ok_check_number (T : Tx P K mg) : FnOk P w K mg base (L2.CX P w) 6 T.a_check_number T.f_check_number ["number"] (sp_check_number T) := by
  have G_is_whole := ok_is_whole (w := w) (base := base) T
  have nd := sc_check_number.nd
  refine fn_tyX T.F_check_number sc_check_number (fun x _ => rfl) fun cdv Ar outer s H E hr => ⟨_, (pss_one (ps_if (pt_not (pt_val (pcall G_is_whole (hr.mono (by decide)) T.D_is_whole (pa_cons (pv 0) pa_nil)))) (pss_one (ps_raiseW rfl T.base T.c_InvalidNumber hr (takes_of rfl rfl rfl rfl) (pa_cons (pv 0) pa_nil))) pss_nil)), fun W x hC he => ?_⟩
  refine tys_guard (φ := (· = !isWholeD x)) (tt_notB (tt_test (ty_call x trivial (by tm_at "tya")))) (fun z => ?_) fun z => ?_
  · have e : isWholeD x = false := bnot1 z
    exact tys_raiseG (T := dt K x) (by tm_at "ty") (he _ _ (by unfold bNum; rw [if_neg (bfalse e)]; rfl))
  · have e : isWholeD x = true := bnot0 z
    exact tys_next.imp fun σ H n => ⟨by unfold bNum; rw [if_pos e]; rfl, n.1.ex, .non⟩
end
section
variable {P : Program} {w : World} {K : PySem.W.Frag} {mg : Str → Option Value} {base : Heap}
def bMod (d : PyData) : Option (Cls × PyData) := if modOk d = true then none else some (.mod, d)
def sp_check_modulus (T : Tx P K mg) : Sp := spX (fun _ : PyData => True) (fun d => [dt K d]) (fun _ => rT (dt K .none)) (fun d => badO T (bMod d))
theorem ok_check_modulus (T : Tx P K mg) : FnOk P w K mg base (L2.CX P w) 6 T.a_check_modulus T.f_check_modulus ["modulus"] (sp_check_modulus T) := by
  have G_is_whole := ok_is_whole (w := w) (base := base) T
  have nd := sc_check_modulus.nd
  refine fn_tyX T.F_check_modulus sc_check_modulus (fun x _ => rfl) fun cdv Ar outer s H E hr => ⟨_, (pss_one (ps_if (PW.pt (pw_or (pt_not (pt_val (pcall G_is_whole (hr.mono (by decide)) T.D_is_whole (pa_cons (pv 0) pa_nil)))) (pw_or1 (pt_cmpR op_lt (pv 0) pe_int (nomark _))))) (pss_one (ps_raiseW rfl T.base T.c_InvalidModulus hr (takes_of rfl rfl rfl rfl) (pa_cons (pv 0) pa_nil))) pss_nil)), fun W x hC he => ?_⟩
  refine tys_guard (φ := (· = !modOk x)) ?_ (fun z => ?_) fun z => ?_
  · cases x with
    | int b => exact Tt.is (tt_orB (a := false) (Tt.is (tt_notB (tt_B (ty_call (PyData.int b) trivial (by tm_at "tya")))) rfl) fun _ => tt_test (ty_op (ty_var rfl) ty_int opt_lt)) (by show (false || decide (b < 0)) = !decide (0 ≤ b); by_cases c : b < 0 <;> simp [c] <;> omega)
    | _ => exact tt_orTr (Tt.is (tt_notB (tt_B (ty_call _ trivial (by tm_at "tya")))) rfl)
  · have e : modOk x = false := bnot1 z
    exact tys_raiseG (T := dt K x) (by tm_at "ty") (he _ _ (by unfold bMod; rw [if_neg (bfalse e)]; rfl))
  · have e : modOk x = true := bnot0 z
    exact tys_next.imp fun σ H n => ⟨by unfold bMod; rw [if_pos e]; rfl, n.1.ex, .non⟩
end
section
variable {P : Program} {w : World} {K : PySem.W.Frag} {mg : Str → Option Value} {base : Heap}
def sp_wrapped (K : PySem.W.Frag) : Sp := spT (fun x : Int × Int => 0 ≤ x.2) (fun x => [dt K (.int x.1), dt K (.int x.2)]) (fun x => dt K (.int (wrapI x.1 x.2)))
theorem ok_wrapped (T : Tx P K mg) : FnOk P w K mg base (L2.CX P w) 1 T.a_wrapped T.f_wrapped ["number", "modulus"] (sp_wrapped K) := by
  have nd := sc_wrapped.nd
  refine fn_ty T.F_wrapped sc_wrapped (fun x _ => rfl) fun cdv Ar outer s H E hr => ⟨_, (pss_one (ps_ret (pe_ifExp (pt_cmpR (k_eq (K := K) rfl hr.units) (pv 1) pe_int (nomark _)) (pv 0) (pe_op op_mod (pv 0) (pv 1))))), fun W x hC => ?_⟩
  obtain ⟨n, m⟩ := x
  have h : 0 ≤ m := hC
  refine TyS.never (tys_retW (ty_if (φ := (· = decide (m = 0))) (tt_test (ty_op (ty_var rfl) ty_int opt_eqI)) (fun z => ?_) fun z => ?_))
  · have c := of_decide_eq_true z.symm
    exact Ty.is (ty_var rfl) (by show _ = PyData.int (wrapI n m); unfold wrapI; rw [if_pos c])
  · have c := of_decide_eq_false z.symm
    exact Ty.is (ty_op (ty_var rfl) (ty_var rfl) (opt_mod (by omega))) (by show _ = PyData.int (wrapI n m); unfold wrapI; rw [if_neg c])
end
section
variable {P : Program} {w : World} {K : PySem.W.Frag} {mg : Str → Option Value} {base : Heap}
def sp_divides (K : PySem.W.Frag) : Sp := spT (fun x : Int × Int => 0 ≤ x.1) (fun x => [dt K (.int x.1), dt K (.int x.2)]) (fun x => dt K (.bool (divI x.1 x.2)))
theorem ok_divides (T : Tx P K mg) : FnOk P w K mg base (L2.CX P w) 1 T.a_divides T.f_divides ["modulus", "number"] (sp_divides K) := by
  have nd := sc_divides.nd
  refine fn_ty T.F_divides sc_divides (fun x _ => rfl) fun cdv Ar outer s H E hr => ⟨_, (pss_one (ps_ret (pe_ifExp (pt_cmpR (k_eq (K := K) rfl hr.units) (pv 0) pe_int (nomark _)) (pe_cmpR (k_eq (K := K) rfl hr.units) (pv 1) pe_int (nomark _)) (pe_cmpR (k_eq (K := K) rfl hr.units) (pe_op op_mod (pv 1) (pv 0)) pe_int (nomark _))))), fun W x hC => ?_⟩
  obtain ⟨m, n⟩ := x
  have h : 0 ≤ m := hC
  refine TyS.never (tys_retW (ty_if (φ := (· = decide (m = 0))) (tt_test (ty_op (ty_var rfl) ty_int opt_eqI)) (fun z => ?_) fun z => ?_))
  · have c := of_decide_eq_true z.symm
    exact Ty.is (ty_op (ty_var rfl) ty_int opt_eqI) (by show _ = PyData.bool (divI m n); unfold divI; rw [if_pos c])
  · have c := of_decide_eq_false z.symm
    exact Ty.is (ty_op (ty_op (ty_var rfl) (ty_var rfl) (opt_mod (by omega))) ty_int opt_eqI) (by show _ = PyData.bool (divI m n); unfold divI; rw [if_neg c])
end
section
variable {P : Program} {w : World} {K : PySem.W.Frag} {mg : Str → Option Value} {base : Heap}
theorem gcdL_snoc (l : List Int) (n : Int) : gcdL (l ++ [n]) = ((Int.gcd (gcdL l) n : Nat) : Int) := by unfold gcdL; rw [List.foldl_append]; rfl
def sp_common_of (K : PySem.W.Frag) : Sp := spT (fun _ : Bool × List Int => True) (fun x => [dt K (seqD x.1 (x.2.map .int))]) (fun x => dt K (.int (gcdL x.2)))
theorem ok_common_of (T : Tx P K mg) : FnOk P w K mg base (L2.CX P w) 1 T.a_common_of T.f_common_of ["numbers"] (sp_common_of K) := by
  have nd := sc_common_of.nd
  refine fn_ty T.F_common_of sc_common_of (fun x _ => rfl) fun cdv Ar outer s H E hr => ⟨_, (pss_cons (pset 1 nd pe_int)
    (pss_cons (ps_for PassesOwn.never rfl (k_iseq (K := K) rfl (pv 0)) (pgn 2 nd) (pss_one (pset 1 nd (k_gcd T.m_gcd (pa_cons (pv 1) (pa_cons (pv 2) pa_nil))))))
    (pss_one (ps_ret (pv 1))))), fun W x hC => ?_⟩
  obtain ⟨b, l⟩ := x
  refine tys_seqE (W' := W) (Γ' := [some (dt K (seqD b (l.map .int))), some (dt K (.int 0)), none]) (tys_set ty_int) ?_
  refine tys_seqE (W' := W) (Γ' := [some (dt K (seqD b (l.map .int))), some (dt K (.int (gcdL l))), none]) ?_ (TyS.never (tys_retW (ty_var rfl)))
  refine tys_for (Wi := fun _ (_ : Unit) => W) (Γi := fun i (_ : Unit) => [some (dt K (seqD b (l.map .int))), some (dt K (.int (gcdL (l.take i)))), none]) () (tyi_seqA (xs := l) (f := PyData.int) (ty_var rfl)) (fun _ _ => Wd.Like.refl W) (fun σ H g => g) (fun i T _ hT => ?_) (fun _ σ H g => by rw [List.length_map, List.take_length] at g; exact g)
  rw [List.getElem?_map] at hT
  cases hp : l[i]? with
  | none => rw [hp] at hT; cases hT
  | some p =>
    rw [hp] at hT
    cases hT
    refine ⟨_, tyg_name 2, ?_⟩
    rw [take_snoc hp, gcdL_snoc]
    exact TyS.imp (tys_set (ty_cb (tya_cons (ty_var rfl) (tya_cons (ty_var rfl) tya_nil)) cbt_gcd)) fun σ H g => ⟨(), g.1, EnvL.less (by exact ⟨fun _ _ _ _ h => h, fun _ _ _ _ h => h, True.intro⟩) g.2⟩
end
section
variable {P : Program} {w : World} {K : PySem.W.Frag} {mg : Str → Option Value} {base : Heap}
def rowG (K : PySem.W.Frag) (one other : Int) (s : Row2) : Gam := [some (dt K (.int one)), some (dt K (.int other)), some (dt K (.list [intsD [s.r0, s.x0, s.y0], intsD [s.r1, s.x1, s.y1]])), none, none, none, none]
def sqC (x : Int × Int) : Prop := sq x.1 ∧ sq x.2
theorem bd_of {n : Nat} {a m : Int} (h : (a.natAbs : Int) ≤ m) (k : bd n m) : bd n a := by
  unfold bd at *; omega
theorem fdiv_ok {a b : Int} {n : Nat} (h : b ≠ 0) (k : bd n b) (hn : n ≤ 8000) : L2.CDivF a b := ⟨h, by have := bd_log k; omega⟩
structure EuI (one other : Int) (s : Row2) : Prop where
  e : euc s = euc (startR one other)
  g : s = startR one other ∨ Gd ((one.natAbs : Int) + 2 * (other.natAbs : Int) + 1) s
theorem big_bd {one other : Int} (h1 : sq one) (h2 : sq other) : bd 403 ((one.natAbs : Int) + 2 * (other.natAbs : Int) + 1) := by
  have a : bd 400 (one.natAbs : Int) := h1
  have b : bd 400 (other.natAbs : Int) := h2
  have c : bd 401 ((other.natAbs : Int) + (other.natAbs : Int)) := b.add b
  have d := (a.mono (by decide : 400 ≤ 401)).add c
  have e := d.add (show bd 402 1 by show 1 < 2 ^ 402; exact Nat.one_lt_two_pow (by decide))
  have q : (one.natAbs : Int) + ((other.natAbs : Int) + (other.natAbs : Int)) + 1 = (one.natAbs : Int) + 2 * (other.natAbs : Int) + 1 := by omega
  rw [q] at e
  exact e
/-- all numbers of a row are small -/
structure RowB (s : Row2) : Prop where
  r0 : bd 403 s.r0
  x0 : bd 403 s.x0
  y0 : bd 403 s.y0
  r1 : bd 403 s.r1
  x1 : bd 403 s.x1
  y1 : bd 403 s.y1
theorem EuI.small {one other : Int} {s : Row2} (I : EuI one other s) (h1 : sq one) (h2 : sq other) : RowB s := by
  have z : ∀ i : Int, i.natAbs ≤ 1 → bd 403 i := fun i hi => Nat.lt_of_le_of_lt hi (Nat.one_lt_two_pow (by decide))
  rcases I.g with rfl | G
  · exact ⟨h1.mono (by decide), z 1 (by decide), z 0 (by decide), h2.mono (by decide), z 0 (by decide), z 1 (by decide)⟩
  · have b := big_bd h1 h2
    exact ⟨bd_of G.r0 b, bd_of G.x0 b, bd_of G.y0 b, bd_of G.r1 b, bd_of G.x1 b, bd_of G.y1 b⟩
theorem EuI.step {one other : Int} {s : Row2} (I : EuI one other s) (h : s.r1 ≠ 0) : EuI one other (stepR s) := by
  refine ⟨(euc_go h).symm.trans I.e, .inr ?_⟩
  rcases I.g with rfl | G
  · exact Gd.first h
  · exact G.step h
def sp_shared (K : PySem.W.Frag) : Sp := spT sqC (fun x => [dt K (.int x.1), dt K (.int x.2)]) (fun x => dt K (intsD (shI x.1 x.2)))
theorem ok_shared (T : Tx P K mg) : FnOk P w K mg base (L2.CX P w) 1 T.a_shared T.f_shared ["one", "other"] (sp_shared K) := by
  have nd := sc_shared.nd
  refine fn_ty T.F_shared sc_shared (fun x _ => rfl) fun cdv Ar outer s H E hr => ⟨_, (pss_cons (pset 2 nd (pe_lst (pa_cons (pe_tup (pa_cons (pv 0) (pa_cons pe_int (pa_cons pe_int pa_nil)))) (pa_cons (pe_tup (pa_cons (pv 1) (pa_cons pe_int (pa_cons pe_int pa_nil)))) pa_nil))))
    (pss_cons (ps_while PassesOwn.never (pt_cmpR (k_ne (K := K) rfl hr.units) (pe_ix (k_ix (K := K) rfl) (pe_ix (k_ix (K := K) rfl) (pv 2) pe_int (fun _ _ => rfl)) pe_int (fun _ _ => rfl)) pe_int (nomark _)) (pss_cons (pset 3 nd (pe_op op_fdivF (pe_ix (k_ix (K := K) rfl) (pe_ix (k_ix (K := K) rfl) (pv 2) pe_int (fun _ _ => rfl)) pe_int (fun _ _ => rfl)) (pe_ix (k_ix (K := K) rfl) (pe_ix (k_ix (K := K) rfl) (pv 2) pe_int (fun _ _ => rfl)) pe_int (fun _ _ => rfl))))
    (pss_one (pset 2 nd (pe_lst (pa_cons (pe_ix (k_ix (K := K) rfl) (pv 2) pe_int (fun _ _ => rfl)) (pa_cons (k_tuple (K := K) rfl T.m_tuple (pa_cons (plc [("here", 4), ("there", 5)] nd (k_izip (K := K) rfl T.m_zip (pa_cons (pe_ix (k_ix (K := K) rfl) (pv 2) pe_int (fun _ _ => rfl)) (pa_cons (pe_ix (k_ix (K := K) rfl) (pv 2) pe_int (fun _ _ => rfl)) pa_nil))) (fun _ _ _ _ _ => (k_gtup (K := K) (n := 2) rfl (pgs_cons (pgn 4 nd) (pgs_cons (pgn 5 nd) pgs_nil)))) (fun _ _ _ _ _ => pts_nil) (fun _ _ _ _ _ => (pe_op op_sub (pv 4) (pe_op op_mulA (pv 3) (pv 5)))) (by kernel_rfl)) pa_nil)) pa_nil)))))))
    (pss_one (ps_ret (pe_ifExp (pt_cmpR op_ge (pe_ix (k_ix (K := K) rfl) (pe_ix (k_ix (K := K) rfl) (pv 2) pe_int (fun _ _ => rfl)) pe_int (fun _ _ => rfl)) pe_int (nomark _)) (pe_ix (k_ix (K := K) rfl) (pv 2) pe_int (fun _ _ => rfl)) (k_tuple (K := K) rfl T.m_tuple (pa_cons (plc [("item", 6)] nd (k_itup (K := K) rfl (pe_ix (k_ix (K := K) rfl) (pv 2) pe_int (fun _ _ => rfl))) (fun _ _ _ _ _ => (pgn 6 nd)) (fun _ _ _ _ _ => pts_nil) (fun _ _ _ _ _ => (pe_un un_neg (pv 6))) (by kernel_rfl)) pa_nil))))))), fun W x hC => ?_⟩
  obtain ⟨one, other⟩ := x
  obtain ⟨h1, h2⟩ : sq one ∧ sq other := hC
  refine tys_seqE (W' := W) (Γ' := rowG K one other (startR one other)) (tys_set (ty_lstD (ds := [intsD [one, 1, 0], intsD [other, 0, 1]]) (tya_cons (ty_tupD (ds := [.int one, .int 1, .int 0]) (by tm_at "tyad") (by show 3 ≤ 1000000; decide)) (tya_cons (ty_tupD (ds := [.int other, .int 0, .int 1]) (by tm_at "tyad") (by show 3 ≤ 1000000; decide)) tya_nil)) (by show 2 ≤ 1000000; decide))) ?_
  have row0 : ∀ (W : Wd) (s : Row2) (Γ : Gam), Γ[2]? = some (some (dt K (.list [intsD [s.r0, s.x0, s.y0], intsD [s.r1, s.x1, s.y1]]))) → Ty W Γ (tOp (rIx K) (tVar 2) (tC (.int 0))) (dt K (intsD [s.r0, s.x0, s.y0])) := fun W s Γ h => ty_op (ty_var h) ty_int (opt_ixL (i := 0) (ds := [intsD [s.r0, s.x0, s.y0], intsD [s.r1, s.x1, s.y1]]) (atI_nat (j := 0) rfl))
  have row1 : ∀ (W : Wd) (s : Row2) (Γ : Gam), Γ[2]? = some (some (dt K (.list [intsD [s.r0, s.x0, s.y0], intsD [s.r1, s.x1, s.y1]]))) → Ty W Γ (tOp (rIx K) (tVar 2) (tC (.int 1))) (dt K (intsD [s.r1, s.x1, s.y1])) := fun W s Γ h => ty_op (ty_var h) ty_int (opt_ixL (i := 1) (ds := [intsD [s.r0, s.x0, s.y0], intsD [s.r1, s.x1, s.y1]]) (atI_nat (j := 1) rfl))
  have cell : ∀ (W : Wd) (Γ : Gam) (te : TE) (r x y : Int), Ty W Γ te (dt K (intsD [r, x, y])) → Ty W Γ (tOp (rIx K) te (tC (.int 0))) (dt K (.int r)) := fun W Γ te r x y h => ty_op h ty_int (opt_ix0 (d := .int r) (ds := [.int x, .int y]))
  refine tys_seqX (α := { s : Row2 // s = euc (startR one other) }) (W' := fun _ => W) (Γ' := fun s => rowG K one other s.1) ?_ fun s => ?_
  · refine tys_while (EuI one other) (rowG K one other) (fun s => s.r1.natAbs) (startR one other) ⟨rfl, .inl rfl⟩ (fun σ H g => g) fun s I => ⟨(· = !decide (s.r1 = 0)), ?_, fun z => ?_, fun z σ H g => ?_⟩
    · exact tt_test (ty_op (cell _ _ _ _ _ _ (row1 _ s _ rfl)) ty_int opt_neI)
    · have nz : s.r1 ≠ 0 := by simpa using z
      have B := I.small h1 h2
      have bc : bd 403 (s.r0.fdiv s.r1) := Nat.lt_of_le_of_lt (fdiv_abs s.r0 nz) B.r0
      refine tys_seqE (W' := W) (Γ' := [some (dt K (.int one)), some (dt K (.int other)), some (dt K (.list [intsD [s.r0, s.x0, s.y0], intsD [s.r1, s.x1, s.y1]])), some (dt K (.int (s.r0.fdiv s.r1))), none, none, none]) (tys_set (ty_op (cell _ _ _ _ _ _ (row0 _ s _ rfl)) (cell _ _ _ _ _ _ (row1 _ s _ rfl)) (opt_fdiv (fdiv_ok nz B.r1 (by decide))))) ?_
      have hz : TyI W [some (dt K (.int one)), some (dt K (.int other)), some (dt K (.list [intsD [s.r0, s.x0, s.y0], intsD [s.r1, s.x1, s.y1]])), some (dt K (.int (s.r0.fdiv s.r1))), none, none, none] (RZ.iZipA K (tCons (tOp (rIx K) (tVar 2) (tC (.int 0))) (tCons (tOp (rIx K) (tVar 2) (tC (.int 1))) tNil))) (([s.r0, s.x0, s.y0].zip [s.r1, s.x1, s.y1]).map fun p => tupT K [dt K (.int p.1), dt K (.int p.2)]) := tyi_zipA (f := .int) (h := .int) (row0 _ s _ rfl) (row1 _ s _ rfl)
      refine TyS.imp (tys_set (ty_lstD (ds := [intsD [s.r1, s.x1, s.y1], intsD [s.r0 - s.r0.fdiv s.r1 * s.r1, s.x0 - s.r0.fdiv s.r1 * s.x1, s.y0 - s.r0.fdiv s.r1 * s.y1]]) (tya_cons (row1 _ s _ rfl) (tya_cons (Ty.is (ty_tupG (f := fun p : Int × Int => .int (p.1 - s.r0.fdiv s.r1 * p.2)) (xs := [s.r0, s.x0, s.y0].zip [s.r1, s.x1, s.y1]) (tyl_mapT _ (fun p : Int × Int => dt K (.int (p.1 - s.r0.fdiv s.r1 * p.2))) hz (by show 3 ≤ 1000000; decide) (gok_pair (by decide) (by decide)) fun W' p hp => ⟨_, tyg_pair, ?_⟩)) rfl) tya_nil)) (by show 2 ≤ 1000000; decide))) fun σ H g => ⟨stepR s, I.step nz, step_lt nz, g.1, EnvL.less (by exact ⟨fun _ _ _ _ h => h, fun _ _ _ _ h => h, fun _ _ _ _ h => h, True.intro⟩) g.2⟩
      have bp : bd 403 p.2 := by
        have hp' : p = (s.r0, s.r1) ∨ p = (s.x0, s.x1) ∨ p = (s.y0, s.y1) := by simpa using hp
        rcases hp' with rfl | rfl | rfl
        · exact B.r1
        · exact B.x1
        · exact B.y1
      exact ty_op (ty_var rfl) (ty_op (ty_var rfl) (ty_var rfl) (opt_mulW (bc.mul_ok bp (by decide)))) opt_sub
    · have z' : s.r1 = 0 := by simpa using z
      exact ⟨⟨s, by rw [← I.e]; exact (euc_stop z').symm⟩, g⟩
  · obtain ⟨s, hs⟩ := s
    dsimp only
    have e : shI one other = endR s := by rw [hs]; rfl
    refine TyS.never (tys_retW (Ty.is (ty_if (φ := (· = decide (0 ≤ s.r0))) (T := dt K (intsD (endR s))) (tt_test (ty_op (cell _ _ _ _ _ _ (row0 _ s _ rfl)) ty_int opt_ge)) (fun z => Ty.is (row0 _ s _ rfl) (by unfold endR; rw [if_pos (of_decide_eq_true z.symm)])) fun z => ?_) (by rw [← e])))
    refine Ty.is (ty_tupG (f := fun i : Int => .int (-i)) (xs := [s.r0, s.x0, s.y0]) (tyl_map (fun i : Int => dt K (.int i)) (fun i : Int => dt K (.int (-i))) (tyi_tupA (f := PyData.int) (row0 _ s _ rfl)) (by show 3 ≤ 1000000; decide) (by decide) fun W' i hi => ty_un (ty_var rfl) unt_neg)) (by unfold endR; rw [if_neg (of_decide_eq_false z.symm)]; rfl)
end
section
variable {P : Program} {w : World} {K : PySem.W.Frag} {mg : Str → Option Value} {base : Heap}
def invD (n m : Int) : PyData := match shI (n % m) m with
  | [g, x, _] => if g = 1 then .int (x % m) else .none
  | _ => .none
theorem invD_is {n m : Int} : ∃ x y, shI (n % m) m = [gI (n % m) m, x, y] ∧ gI (n % m) m = x * (n % m) + y * m ∧ invD n m = if gI (n % m) m = 1 then .int (x % m) else .none := by
  obtain ⟨x, y, h1, h2⟩ := sh_is (n % m) m
  exact ⟨x, y, h1, h2, by unfold invD; rw [h1]⟩
def sp_inverse_in (K : PySem.W.Frag) : Sp := spT (fun x : Int × Int => sq x.1 ∧ sq x.2 ∧ 1 ≤ x.2) (fun x => [dt K (.int x.1), dt K (.int x.2)]) (fun x => dt K (invD x.1 x.2))
theorem ok_inverse_in (T : Tx P K mg) : FnOk P w K mg base (L2.CX P w) 2 T.a_inverse_in T.f_inverse_in ["number", "modulus"] (sp_inverse_in K) := by
  have G_shared := ok_shared (w := w) (base := base) T
  have nd := sc_inverse_in.nd
  refine fn_ty T.F_inverse_in sc_inverse_in (fun x _ => rfl) fun cdv Ar outer s H E hr => ⟨_, (pss_cons (ps_asg (pcall G_shared (hr.mono (by decide)) T.D_shared (pa_cons (pe_op op_mod (pv 0) (pv 1)) (pa_cons (pv 1) pa_nil))) (k_gtup (K := K) (n := 3) rfl (pgs_cons (pgn 2 nd) (pgs_cons (pgn 3 nd) (pgs_cons (pgn 4 nd) pgs_nil)))))
    (pss_one (ps_ret (pe_ifExp (pt_cmpR (k_eq (K := K) rfl hr.units) (pv 2) pe_int (nomark _)) (pe_op op_mod (pv 3) (pv 1)) pe_non)))), fun W x hC => ?_⟩
  obtain ⟨n, m⟩ := x
  obtain ⟨h1, h2, h3⟩ : sq n ∧ sq m ∧ 1 ≤ m := hC
  obtain ⟨x, y, e1, e2, e3⟩ := invD_is (n := n) (m := m)
  have nm0 := Int.emod_nonneg n (show m ≠ 0 by omega)
  have nm1 := Int.emod_lt_of_pos n (show 0 < m by omega)
  have sn : sq (n % m) := h2.le nm0 (by omega)
  refine tys_seqE (W' := W) (Γ' := [some (dt K (.int n)), some (dt K (.int m)), some (dt K (.int (gI (n % m) m))), some (dt K (.int x)), some (dt K (.int y))]) (tys_asg (Ty.is (ty_call (n % m, m) ⟨sn, h2⟩ (tya_cons (ty_op (ty_var rfl) (ty_var rfl) (opt_mod (by omega))) (tya_cons (ty_var rfl) tya_nil))) (congrArg intsD e1)) tyg_tri) ?_
  refine TyS.never (tys_retW (ty_if (φ := (· = decide (gI (n % m) m = 1))) (tt_test (ty_op (ty_var rfl) ty_int opt_eqI)) (fun z => ?_) fun z => ?_))
  · exact Ty.is (ty_op (ty_var rfl) (ty_var rfl) (opt_mod (by omega))) (by show _ = invD n m; rw [e3, if_pos (of_decide_eq_true z.symm)])
  · exact Ty.is ty_non (by show _ = invD n m; rw [e3, if_neg (of_decide_eq_false z.symm)])
end
section
variable {P : Program} {w : World} {K : PySem.W.Frag} {mg : Str → Option Value} {base : Heap}
def bRest (d e : PyData) : Option (Cls × PyData) := if isWholeD d = true then bMod e else some (.num, d)
theorem mod_form {e : PyData} (h : modOk e = true) : ∃ m, e = .int m ∧ 0 ≤ m := by
  cases e <;> simp [modOk] at h
  exact ⟨_, rfl, h⟩
def sp_rest (T : Tx P K mg) : Sp := spX (fun _ : PyData × PyData => True) (fun x => [dt K x.1, dt K x.2]) (fun x => rT (dt K (.int (wrapI (wI x.1) (wI x.2))))) (fun x => badO T (bRest x.1 x.2))
theorem ok_rest (T : Tx P K mg) : FnOk P w K mg base (L2.CX P w) 7 T.a_rest T.f_rest ["number", "modulus"] (sp_rest T) := by
  have G_check_number := ok_check_number (w := w) (base := base) T
  have G_check_modulus := ok_check_modulus (w := w) (base := base) T
  have G_wrapped := ok_wrapped (w := w) (base := base) T
  have nd := sc_rest.nd
  refine fn_tyX T.F_rest sc_rest (fun x _ => rfl) fun cdv Ar outer s H E hr => ⟨_, (pss_cons (ps_expr (pe_callS G_check_number (hr.mono (by decide)) rfl T.D_check_number.g T.D_check_number.k T.D_check_number.b (fun σ => passAt (takes_of rfl rfl rfl rfl) σ) (pa_cons (pv 0) pa_nil)))
    (pss_cons (ps_expr (pe_callS G_check_modulus (hr.mono (by decide)) rfl T.D_check_modulus.g T.D_check_modulus.k T.D_check_modulus.b (fun σ => passAt (takes_of rfl rfl rfl rfl) σ) (pa_cons (pv 1) pa_nil)))
    (pss_one (ps_ret (pcall G_wrapped (hr.mono (by decide)) T.D_wrapped (pa_cons (pv 0) (pa_cons (pv 1) pa_nil))))))), fun W x hC he => ?_⟩
  obtain ⟨d, e⟩ := x
  dsimp only at he ⊢
  refine tys_seqG (φ := isWholeD d = true) (tys_dropR (tyr_callX d trivial (tya_cons (ty_var rfl) tya_nil) fun b hb => ?_) fun H0 v H z => bNum_none (badO_none z.1)) fun q => ?_
  · by_cases q : isWholeD d = true
    · unfold bNum at hb; rw [if_pos q] at hb; cases hb
    · exact he _ _ (by unfold bRest; rw [if_neg q]; unfold bNum at hb; rw [if_neg q] at hb; exact hb)
  have e1 : bRest d e = bMod e := if_pos q
  rw [e1] at he ⊢
  refine tys_seqG (φ := modOk e = true) (tys_dropR (tyr_callX e trivial (tya_cons (ty_var rfl) tya_nil) fun b hb => he _ _ hb) fun H0 v H z => some_none (badO_none z.1)) fun q2 => ?_
  obtain ⟨n, rfl⟩ := whole_int q
  obtain ⟨m, rfl, m0⟩ := mod_form q2
  exact TyS.never (tys_retX (by unfold bMod; rw [if_pos q2]; rfl) (Ty.tyr (ty_call (n, m) m0 (tya_cons (ty_var rfl) (tya_cons (ty_var rfl) tya_nil)))))
end
section
variable {P : Program} {w : World} {K : PySem.W.Frag} {mg : Str → Option Value} {base : Heap}
def bTwo (a b : PyData) (r : Option (Cls × PyData)) : Option (Cls × PyData) := if isWholeD a = true then (if isWholeD b = true then r else some (.num, b)) else some (.num, a)
theorem two_for {P : Program} {K : PySem.W.Frag} {mg : Str → Option Value} {T : Tx P K mg} {W : Wd} {Γ : Gam} {a b : PyData} {r : Option (Cls × PyData)} {n : Nat} {N : Sx → Hp → Prop} {R : V → Hp → Prop} {Wx : WX} {tw : TS} (hn : 1 < n) (h0 : Γ[0]? = some (some (dt K a))) (h1 : Γ[1]? = some (some (dt K b))) (hnn : Γ[n]? = some none)
    (he : ∀ Γ c, badO T (bTwo a b r) = some c → ErX W Γ Wx c) (hw : isWholeD a = true → isWholeD b = true → TyS W Γ tw N R noN noN) :
    TyS W Γ (tSeq (tFor (iTup K (tTup (tCons (tVar 0) (tCons (tVar 1) tNil)))) (gName n) (tDrop (tCallS (sp_check_number T) (fun σ => WE Wx σ) (tCons (tVar n) tNil)))) tw) N R noN noN := by
  have hi : TyI W Γ (iTup K (tTup (tCons (tVar 0) (tCons (tVar 1) tNil)))) [dt K a, dt K b] := tyi_tup (ty_tup (tya_cons (ty_var h0) (tya_cons (ty_var h1) tya_nil)) (by show 2 ≤ 1000000; decide))
  let fl : Nat → Prop := fun i => (1 ≤ i → isWholeD a = true) ∧ (2 ≤ i → isWholeD b = true)
  have g1 : ∀ i, (Γ.set 0 (some (gd (fl i) (dt K a))))[0]? = some (some (gd (fl i) (dt K a))) := fun i => List.getElem?_set_self (List.getElem?_eq_some_iff.mp h0).1
  have back : ∀ (U : Typ), (Γ.set 0 (some U)).set 0 (some (dt K a)) = Γ := fun U => by
    rw [List.set_set]
    apply List.ext_getElem?
    intro j
    by_cases e : 0 = j
    · subst e; rw [List.getElem?_set_self (List.getElem?_eq_some_iff.mp h0).1, h0]
    · rw [List.getElem?_set_ne e]
  have toG : ∀ {i : Nat} {σ : Sx} {H : Hp}, fl i → EnvW W Γ σ H → EnvW W (Γ.set 0 (some (gd (fl i) (dt K a)))) σ H := fun {i σ H} f g => by
    obtain ⟨v, k1, k2⟩ := g.get h0
    have z := EnvL.set (T := gd (fl i) (dt K a)) (i := 0) ⟨f, k2⟩ g
    have e : σ.set 0 (some v) = σ := by
      apply List.ext_getElem?
      intro j
      by_cases e : 0 = j
      · subst e; rw [List.getElem?_set_self (List.getElem?_eq_some_iff.mp k1).1, k1]
      · rw [List.getElem?_set_ne e]
    rw [e] at z
    exact z
  have drop : ∀ {σ : Sx} {H : Hp} {U : Typ}, EnvW W (Γ.set n (some U)) σ H → EnvW W Γ σ H := fun {σ H U} g => by
    have z := EnvL.setN (x := σ[n]?.join) n g
    have e : σ.set n σ[n]?.join = σ := by
      apply List.ext_getElem?
      intro j
      by_cases e : n = j
      · subst e
        have : n < σ.length := by
          have := g.length
          rw [this, List.length_set]
          exact (List.getElem?_eq_some_iff.mp hnn).1
        rw [List.getElem?_set_self this, List.getElem?_eq_getElem this]; rfl
      · rw [List.getElem?_set_ne e]
    rw [e, List.set_set] at z
    have e2 : Γ.set n none = Γ := by
      apply List.ext_getElem?
      intro j
      by_cases e : n = j
      · subst e; rw [List.getElem?_set_self (List.getElem?_eq_some_iff.mp hnn).1, hnn]
      · rw [List.getElem?_set_ne e]
    rw [e2] at z
    exact z
  refine tys_seqG (φ := isWholeD a = true ∧ isWholeD b = true) ?_ fun q => hw q.1 q.2
  refine tys_for (Wi := fun _ (_ : Unit) => W) (Γi := fun i (_ : Unit) => Γ.set 0 (some (gd (fl i) (dt K a)))) () hi (fun _ _ => Wd.Like.refl W) (fun σ H g => ⟨g.1, toG ⟨fun z => absurd z (by decide), fun z => absurd z (by decide)⟩ g.2⟩) (fun i U _ hU => ?_) (fun _ σ H g => ?_)
  · refine ⟨_, tyg_name n, ?_⟩
    have step : ∀ (d : PyData), U = dt K d → (fl i → ∀ c, badO T (bNum d) = some c → badO T (bTwo a b r) = some c) → (fl i → isWholeD d = true → fl (i + 1)) → TyS W ((Γ.set 0 (some (gd (fl i) (dt K a)))).set n (some U)) (tDrop (tCallS (sp_check_number T) (fun σ => WE Wx σ) (tCons (tVar n) tNil))) (fun σ H => ∃ _ : Unit, nE W (Γ.set 0 (some (gd (fl (i + 1)) (dt K a)))) σ H) R (fun σ H => (isWholeD a = true ∧ isWholeD b = true) ∧ nE W Γ σ H) (fun σ H => ∃ _ : Unit, nE W (Γ.set 0 (some (gd (fl (i + 1)) (dt K a)))) σ H) := fun d hd k1 k2 => by
      subst hd
      have ne : (0 : Nat) ≠ n := by omega
      have e0 : ((Γ.set 0 (some (gd (fl i) (dt K a)))).set n (some (dt K d)))[0]? = some (some (gd (fl i) (dt K a))) := by rw [List.getElem?_set_ne ne.symm]; exact g1 i
      refine TyS.openG (n := 0) e0 fun hf => ?_
      have en : ((((Γ.set 0 (some (gd (fl i) (dt K a)))).set n (some (dt K d))).set 0 (some (dt K a))))[n]? = some (some (dt K d)) := by
        rw [List.getElem?_set_ne ne, List.getElem?_set_self (by rw [List.length_set]; exact (List.getElem?_eq_some_iff.mp hnn).1)]
      refine TyS.imp (tys_dropR (φ := isWholeD d = true) (tyr_callX d trivial (tya_cons (ty_var en) tya_nil) fun c hc => he _ _ (k1 hf c hc)) fun H0 v H z => bNum_none (badO_none z.1)) fun σ H ⟨f, g⟩ => ⟨(), g.1, ?_⟩
      have g2 := g.2
      have e4 : (((Γ.set 0 (some (gd (fl i) (dt K a)))).set n (some (dt K d))).set 0 (some (dt K a))) = Γ.set n (some (dt K d)) := by
        rw [List.set_comm _ _ ne.symm, List.set_set]
        have := back (dt K a)
        rw [List.set_set] at this
        rw [this]
      rw [e4] at g2
      exact toG (k2 hf f) (drop g2)
    match i, hU with
    | 0, hU =>
      obtain rfl : dt K a = U := by simpa using hU
      exact step a rfl (fun _ c hc => by
        unfold bTwo
        by_cases q : isWholeD a = true
        · unfold bNum at hc; rw [if_pos q] at hc; cases hc
        · rw [if_neg q]; unfold bNum at hc; rw [if_neg q] at hc; exact hc) fun _ w => ⟨fun _ => w, fun z => absurd z (by decide)⟩
    | 1, hU =>
      obtain rfl : dt K b = U := by simpa using hU
      exact step b rfl (fun f c hc => by
        unfold bTwo
        rw [if_pos (f.1 (by decide))]
        by_cases q : isWholeD b = true
        · unfold bNum at hc; rw [if_pos q] at hc; cases hc
        · rw [if_neg q]; unfold bNum at hc; rw [if_neg q] at hc; exact hc) fun f w => ⟨fun _ => f.1 (by decide), fun _ => w⟩
    | i + 2, hU => simp at hU
  · obtain ⟨v, h2, hf, h3⟩ := g.2.get (g1 2)
    have z := EnvL.set (T := dt K a) (i := 0) h3 g.2
    have e : σ.set 0 (some v) = σ := by
      apply List.ext_getElem?
      intro j
      by_cases e : 0 = j
      · subst e; rw [List.getElem?_set_self (List.getElem?_eq_some_iff.mp h2).1, h2]
      · rw [List.getElem?_set_ne e]
    rw [e] at z
    have z2 : EnvL W.M W.B ((Γ.set 0 (some (gd (fl 2) (dt K a)))).set 0 (some (dt K a))) σ H := z
    rw [back] at z2
    exact ⟨⟨hf.1 (by decide), hf.2 (by decide)⟩, g.1, z2⟩
def sp_same (T : Tx P K mg) : Sp := spX (fun _ : PyData × PyData × PyData => True) (fun x => [dt K x.1, dt K x.2.1, dt K x.2.2]) (fun x => rT (dt K (.bool (divI (wI x.2.2) (wI x.1 - wI x.2.1))))) (fun x => badO T (bTwo x.1 x.2.1 (bMod x.2.2)))
theorem ok_same (T : Tx P K mg) : FnOk P w K mg base (L2.CX P w) 7 T.a_same T.f_same ["one", "other", "modulus"] (sp_same T) := by
  have G_check_modulus := ok_check_modulus (w := w) (base := base) T
  have G_divides := ok_divides (w := w) (base := base) T
  have G_check_number := ok_check_number (w := w) (base := base) T
  have nd := sc_same.nd
  refine fn_tyX T.F_same sc_same (fun x _ => rfl) fun cdv Ar outer s H E hr => ⟨_, (pss_cons (ps_for (passes_of rfl) rfl (k_itup (K := K) rfl (pe_tup (pa_cons (pv 0) (pa_cons (pv 1) pa_nil)))) (pgn 3 nd) (pss_one (ps_expr (pe_callS G_check_number (hr.mono (by decide)) rfl T.D_check_number.g T.D_check_number.k T.D_check_number.b (fun σ => passAt (takes_of rfl rfl rfl rfl) σ) (pa_cons (pv 3) pa_nil)))))
    (pss_cons (ps_expr (pe_callS G_check_modulus (hr.mono (by decide)) rfl T.D_check_modulus.g T.D_check_modulus.k T.D_check_modulus.b (fun σ => passAt (takes_of rfl rfl rfl rfl) σ) (pa_cons (pv 2) pa_nil)))
    (pss_one (ps_ret (pcall G_divides (hr.mono (by decide)) T.D_divides (pa_cons (pv 2) (pa_cons (pe_op op_sub (pv 0) (pv 1)) pa_nil))))))), fun W x hC he => ?_⟩
  obtain ⟨a, b, e⟩ := x
  dsimp only at he ⊢
  refine TyS.never (two_for (r := bMod e) (n := 3) (by decide) rfl rfl rfl he fun q1 q2 => ?_)
  have e1 : bTwo a b (bMod e) = bMod e := by unfold bTwo; rw [if_pos q1, if_pos q2]
  rw [e1] at he ⊢
  refine tys_seqG (φ := modOk e = true) (tys_dropR (tyr_callX e trivial (tya_cons (ty_var rfl) tya_nil) fun b hb => he _ _ hb) fun H0 v H z => some_none (badO_none z.1)) fun q3 => ?_
  obtain ⟨n, rfl⟩ := whole_int q1
  obtain ⟨k, rfl⟩ := whole_int q2
  obtain ⟨m, rfl, m0⟩ := mod_form q3
  exact tys_retX (by unfold bMod; rw [if_pos q3]; rfl) (Ty.tyr (ty_call (m, n - k) m0 (tya_cons (ty_var rfl) (tya_cons (ty_op (ty_var rfl) (ty_var rfl) opt_sub) tya_nil))))
end
section
variable {P : Program} {w : World} {K : PySem.W.Frag} {mg : Str → Option Value} {base : Heap}
def bNums (d : PyData) : Option (Cls × PyData) := if numsOk d = true then none else some (.nums, d)
def sp_check_numbers (T : Tx P K mg) : Sp := spX (fun d : PyData => (itemsD d).length ≤ 1000) (fun d => [dt K d]) (fun _ => rT (dt K .none)) (fun d => badO T (bNums d))
theorem ok_check_numbers (T : Tx P K mg) : FnOk P w K mg base (L2.CX P w) 6 T.a_check_numbers T.f_check_numbers ["numbers"] (sp_check_numbers T) := by
  have G_is_list := ok_is_list (w := w) (base := base) T
  have G_is_whole := ok_is_whole (w := w) (base := base) T
  have nd := sc_check_numbers.nd
  refine fn_tyX T.F_check_numbers sc_check_numbers (fun x _ => rfl) fun cdv Ar outer s H E hr => ⟨_, (pss_one (ps_if (PW.pt (pw_or (pt_not (pt_val (pcall G_is_list (hr.mono (by decide)) T.D_is_list (pa_cons (pv 0) pa_nil)))) (pw_or1 (pt_not (pt_val (k_all (K := K) rfl T.m_all (pa_cons (plc [("number", 1)] nd (k_iseq (K := K) rfl (pv 0)) (fun _ _ _ _ _ => (pgn 1 nd)) (fun _ _ _ _ _ => pts_nil) (fun _ _ _ _ _ => (pcall G_is_whole (hr.mono (by decide)) T.D_is_whole (pa_cons (pv 1) pa_nil))) (by kernel_rfl)) pa_nil))))))) (pss_one (ps_raiseW rfl T.base T.c_InvalidNumbers hr (takes_of rfl rfl rfl rfl) (pa_cons (pv 0) pa_nil))) pss_nil)), fun W x hC he => ?_⟩
  have hz : (itemsD x).length ≤ 1000 := hC
  refine tys_guard (φ := (· = !numsOk x)) ?_ (fun z => ?_) fun z => ?_
  · cases hl : isListD x with
    | false => exact Tt.is (tt_orTr (Tt.is (tt_notB (tt_B (ty_call x trivial (tya_cons (ty_var rfl) tya_nil)))) (by rw [hl]; rfl))) (by unfold numsOk; rw [hl]; rfl)
    | true =>
      obtain ⟨b, ds, rfl, e⟩ := list_form hl
      rw [e] at hz
      refine Tt.is (tt_orB (a := false) (b := !ds.all isWholeD) (Tt.is (tt_notB (tt_B (ty_call (seqD b ds) trivial (tya_cons (ty_var rfl) tya_nil)))) (by rw [hl]; rfl)) fun _ => tt_notB (tt_B (ty_allG (p := isWholeD) ?_))) (by unfold numsOk; rw [hl, e]; rfl)
      exact tyl_map (dt K) (fun x => dt K (.bool (isWholeD x))) (tyi_seqD (ty_var rfl)) (Nat.le_trans hz (by decide)) (by decide) fun W' y _ => ty_call y trivial (tya_cons (ty_var rfl) tya_nil)
  · have e : numsOk x = false := bnot1 z
    exact tys_raiseG (T := dt K x) (by tm_at "ty") (he _ _ (by unfold bNums; rw [if_neg (bfalse e)]; rfl))
  · have e : numsOk x = true := bnot0 z
    exact tys_next.imp fun σ H n => ⟨by unfold bNums; rw [if_pos e]; rfl, n.1.ex, .non⟩
end
section
variable {P : Program} {w : World} {K : PySem.W.Frag} {mg : Str → Option Value} {base : Heap}
def nsD (d : PyData) : List Int := (itemsD d).map wI
theorem nsD_seq (b : Bool) (l : List Int) : nsD (seqD b (l.map .int)) = l := by
  have e : itemsD (seqD b (l.map .int)) = l.map PyData.int := by cases b <;> rfl
  unfold nsD
  rw [e, List.map_map]
  exact (List.map_congr_left fun _ _ => rfl).trans (List.map_id l)
def sp_common (T : Tx P K mg) : Sp := spX (fun d : PyData => (itemsD d).length ≤ 1000) (fun d => [dt K d]) (fun d => rT (dt K (.int (gcdL (nsD d))))) (fun d => badO T (bNums d))
theorem ok_common (T : Tx P K mg) : FnOk P w K mg base (L2.CX P w) 7 T.a_common T.f_common ["numbers"] (sp_common T) := by
  have G_check_numbers := ok_check_numbers (w := w) (base := base) T
  have G_common_of := ok_common_of (w := w) (base := base) T
  have nd := sc_common.nd
  refine fn_tyX T.F_common sc_common (fun x _ => rfl) fun cdv Ar outer s H E hr => ⟨_, (pss_cons (ps_expr (pe_callS G_check_numbers (hr.mono (by decide)) rfl T.D_check_numbers.g T.D_check_numbers.k T.D_check_numbers.b (fun σ => passAt (takes_of rfl rfl rfl rfl) σ) (pa_cons (pv 0) pa_nil)))
    (pss_one (ps_ret (pcall G_common_of (hr.mono (by decide)) T.D_common_of (pa_cons (pv 0) pa_nil))))), fun W x hC he => ?_⟩
  refine tys_seqG (φ := numsOk x = true) (tys_dropR (tyr_callX x hC (tya_cons (ty_var rfl) tya_nil) fun b hb => he _ _ hb) fun H0 v H z => some_none (badO_none z.1)) fun q => ?_
  obtain ⟨b, l, rfl⟩ := nums_form q
  refine TyS.never (tys_retX (by unfold bNums; rw [if_pos q]; rfl) (Ty.tyr (Ty.is (ty_call (b, l) trivial (tya_cons (ty_var rfl) tya_nil)) (by rw [nsD_seq]))))
end
section
variable {P : Program} {w : World} {K : PySem.W.Frag} {mg : Str → Option Value} {base : Heap}
theorem lcm_bd : ∀ (l : List Int) (f : Int) (k : Nat), bd k f → (∀ n ∈ l, bd 400 n) → bd (k + 400 * l.length) (l.foldl lcmS f)
  | [], f, k, h, _ => h
  | n :: l, f, k, h, hl => by
    have h1 : bd (k + 400) (lcmS f n) := by
      have z := lcmS_abs (f := f) (n := n)
      have m := h.mul (hl n (List.mem_cons_self ..))
      unfold bd at m ⊢
      rw [Int.natAbs_mul] at m
      exact Nat.lt_of_le_of_lt z m
    have h2 := lcm_bd l (lcmS f n) (k + 400) h1 fun m hm => hl m (List.mem_cons_of_mem _ hm)
    rw [List.length_cons]
    exact h2.mono (by omega)
theorem lcmL_snoc (l : List Int) (n : Int) : lcmL (l ++ [n]) = lcmS (lcmL l) n := by unfold lcmL; rw [List.foldl_append]; rfl
def lcmC (d : PyData) : Prop := (itemsD d).length ≤ 10 ∧ (numsOk d = true → ∀ n ∈ nsD d, bd 400 n)
theorem gcd_pos {f n : Int} (h : f ≠ 0) : 0 < ((Int.gcd f n : Nat) : Int) := by
  have : 0 < Int.gcd f n := Int.gcd_pos_of_ne_zero_left n h
  omega
theorem gcd_bd {f n : Int} {k : Nat} (h : n ≠ 0) (b : bd k n) : bd k ((Int.gcd f n : Nat) : Int) := by
  have l := Int.le_of_dvd (show 0 < (n.natAbs : Int) by omega) (Int.dvd_trans (Int.gcd_dvd_right ..) (Int.dvd_natAbs.mpr (Int.dvd_refl n)) : ((Int.gcd f n : Nat) : Int) ∣ (n.natAbs : Int))
  unfold bd at *
  omega
def sp_least_multiple (T : Tx P K mg) : Sp := spX lcmC (fun d => [dt K d]) (fun d => rT (dt K (.int (lcmL (nsD d))))) (fun d => badO T (bNums d))
theorem ok_least_multiple (T : Tx P K mg) : FnOk P w K mg base (L2.CX P w) 7 T.a_least_multiple T.f_least_multiple ["numbers"] (sp_least_multiple T) := by
  have G_check_numbers := ok_check_numbers (w := w) (base := base) T
  have nd := sc_least_multiple.nd
  refine fn_tyX T.F_least_multiple sc_least_multiple (fun x _ => rfl) fun cdv Ar outer s H E hr => ⟨_, (pss_cons (ps_expr (pe_callS G_check_numbers (hr.mono (by decide)) rfl T.D_check_numbers.g T.D_check_numbers.k T.D_check_numbers.b (fun σ => passAt (takes_of rfl rfl rfl rfl) σ) (pa_cons (pv 0) pa_nil)))
    (pss_cons (pset 1 nd pe_int)
    (pss_cons (ps_for (passes_of rfl) rfl (k_iseq (K := K) rfl (pv 0)) (pgn 2 nd) (pss_one (pset 1 nd (pe_ifExp (pt_cmpR (k_eq (K := K) rfl hr.units) (pv 2) pe_int (nomark _)) pe_int (pe_ifExp (pt_cmpR (k_ne (K := K) rfl hr.units) (pv 1) pe_int (nomark _)) (pe_op op_divA (bi_abs T.m_abs (pa_cons (pe_op op_mulA (pv 1) (pv 2)) pa_nil)) (k_gcd T.m_gcd (pa_cons (pv 1) (pa_cons (pv 2) pa_nil)))) pe_int)))))
    (pss_one (ps_ret (pv 1)))))), fun W x hC he => ?_⟩
  obtain ⟨C1, C2⟩ : (itemsD x).length ≤ 10 ∧ (numsOk x = true → ∀ n ∈ nsD x, bd 400 n) := hC
  refine tys_seqG (φ := numsOk x = true) (tys_dropR (tyr_callX x (show (itemsD x).length ≤ 1000 by omega) (tya_cons (ty_var rfl) tya_nil) fun b hb => he _ _ hb) fun H0 v H z => some_none (badO_none z.1)) fun q => ?_
  have C3 := C2 q
  obtain ⟨b, l, rfl⟩ := nums_form q
  rw [nsD_seq] at C3 ⊢
  have ll : l.length ≤ 10 := by
    have e : itemsD (seqD b (l.map .int)) = l.map PyData.int := by cases b <;> rfl
    rw [e, List.length_map] at C1; exact C1
  refine tys_seqE (W' := W) (Γ' := [some (dt K (seqD b (l.map .int))), some (dt K (.int 1)), none]) (tys_set ty_int) ?_
  refine tys_seqE (W' := W) (Γ' := [some (dt K (seqD b (l.map .int))), some (dt K (.int (lcmL l))), none]) ?_ (TyS.never (tys_retX (by unfold bNums; rw [if_pos q]; rfl) (Ty.tyr (ty_var rfl))))
  refine tys_for (Wi := fun _ (_ : Unit) => W) (Γi := fun i (_ : Unit) => [some (dt K (seqD b (l.map .int))), some (dt K (.int (lcmL (l.take i)))), none]) () (tyi_seqA (xs := l) (f := PyData.int) (ty_var rfl)) (fun _ _ => Wd.Like.refl W) (fun σ H g => g) (fun i T' _ hT => ?_) (fun _ σ H g => by rw [List.length_map, List.take_length] at g; exact g)
  rw [List.getElem?_map] at hT
  cases hp : l[i]? with
  | none => rw [hp] at hT; cases hT
  | some n =>
    rw [hp] at hT
    cases hT
    have mn := List.mem_of_getElem? hp
    have bn := C3 n mn
    have bf : bd 4001 (lcmL (l.take i)) := (lcm_bd (l.take i) 1 1 (by show 1 < 2 ^ 1; decide) fun m hm => C3 m (List.mem_of_mem_take hm)).mono (by rw [List.length_take]; omega)
    refine ⟨_, tyg_name 2, ?_⟩
    rw [take_snoc hp, lcmL_snoc]
    generalize lcmL (l.take i) = f at bf
    refine TyS.imp (tys_set (T := dt K (.int (lcmS f n))) (ty_if (φ := (· = decide (n = 0))) (tt_test (ty_op (ty_var rfl) ty_int opt_eqI)) (fun z => Ty.is ty_int (by unfold lcmS; rw [if_pos (of_decide_eq_true z.symm)])) fun z => ?_)) fun σ H g => ⟨(), g.1, EnvL.less (by exact ⟨fun _ _ _ _ h => h, fun _ _ _ _ h => h, True.intro⟩) g.2⟩
    have nz := of_decide_eq_false z.symm
    refine ty_if (φ := (· = !decide (f = 0))) (tt_test (ty_op (ty_var rfl) ty_int opt_neI)) (fun z2 => ?_) fun z2 => ?_
    · have fz : f ≠ 0 := by simpa using z2
      exact Ty.is (ty_op (ty_cb (tya_cons (ty_op (ty_var rfl) (ty_var rfl) (opt_mulW (bf.mul_ok bn (by decide)))) tya_nil) cbt_abs) (ty_cb (tya_cons (ty_var rfl) (tya_cons (ty_var rfl) tya_nil)) cbt_gcd) (opt_div ((gcd_bd nz bn).div_ok (gcd_pos fz) (by decide)))) (by unfold lcmS absI'; rw [if_neg nz, if_pos fz])
    · have fz : f = 0 := by simpa using z2
      exact Ty.is ty_int (by unfold lcmS; rw [if_neg nz, if_neg (by rw [fz]; simp)])
end
section
variable {P : Program} {w : World} {K : PySem.W.Frag} {mg : Str → Option Value} {base : Heap}
def bezC (x : PyData × PyData) : Prop := sq (wI x.1) ∧ sq (wI x.2)
def sp_bezout (T : Tx P K mg) : Sp := spX bezC (fun x => [dt K x.1, dt K x.2]) (fun x => rT (dt K (intsD (shI (wI x.1) (wI x.2))))) (fun x => badO T (bTwo x.1 x.2 none))
theorem ok_bezout (T : Tx P K mg) : FnOk P w K mg base (L2.CX P w) 7 T.a_bezout T.f_bezout ["one", "other"] (sp_bezout T) := by
  have G_shared := ok_shared (w := w) (base := base) T
  have G_check_number := ok_check_number (w := w) (base := base) T
  have nd := sc_bezout.nd
  refine fn_tyX T.F_bezout sc_bezout (fun x _ => rfl) fun cdv Ar outer s H E hr => ⟨_, (pss_cons (ps_for (passes_of rfl) rfl (k_itup (K := K) rfl (pe_tup (pa_cons (pv 0) (pa_cons (pv 1) pa_nil)))) (pgn 2 nd) (pss_one (ps_expr (pe_callS G_check_number (hr.mono (by decide)) rfl T.D_check_number.g T.D_check_number.k T.D_check_number.b (fun σ => passAt (takes_of rfl rfl rfl rfl) σ) (pa_cons (pv 2) pa_nil)))))
    (pss_one (ps_ret (pcall G_shared (hr.mono (by decide)) T.D_shared (pa_cons (pv 0) (pa_cons (pv 1) pa_nil)))))), fun W x hC he => ?_⟩
  obtain ⟨a, b⟩ := x
  obtain ⟨C1, C2⟩ : sq (wI a) ∧ sq (wI b) := hC
  dsimp only at he ⊢
  refine TyS.never (two_for (r := none) (n := 2) (by decide) rfl rfl rfl he fun q1 q2 => ?_)
  obtain ⟨n, rfl⟩ := whole_int q1
  obtain ⟨k, rfl⟩ := whole_int q2
  exact tys_retX rfl (Ty.tyr (ty_call (n, k) ⟨C1, C2⟩ (tya_cons (ty_var rfl) (tya_cons (ty_var rfl) tya_nil))))
end
section
variable {P : Program} {w : World} {K : PySem.W.Frag} {mg : Str → Option Value} {base : Heap}
def bInv (d e : PyData) : Option (Cls × PyData) := if isWholeD d = true then (if mod1 e = true then none else some (.mod, e)) else some (.num, d)
theorem mod1_form {e : PyData} (h : mod1 e = true) : ∃ m, e = .int m ∧ 1 ≤ m := by
  cases e <;> simp [mod1] at h
  exact ⟨_, rfl, h⟩
def sp_inverse (T : Tx P K mg) : Sp := spX bezC (fun x => [dt K x.1, dt K x.2]) (fun x => rT (dt K (invD (wI x.1) (wI x.2)))) (fun x => badO T (bInv x.1 x.2))
theorem ok_inverse (T : Tx P K mg) : FnOk P w K mg base (L2.CX P w) 7 T.a_inverse T.f_inverse ["number", "modulus"] (sp_inverse T) := by
  have G_check_number := ok_check_number (w := w) (base := base) T
  have G_inverse_in := ok_inverse_in (w := w) (base := base) T
  have G_is_whole := ok_is_whole (w := w) (base := base) T
  have nd := sc_inverse.nd
  refine fn_tyX T.F_inverse sc_inverse (fun x _ => rfl) fun cdv Ar outer s H E hr => ⟨_, (pss_cons (ps_expr (pe_callS G_check_number (hr.mono (by decide)) rfl T.D_check_number.g T.D_check_number.k T.D_check_number.b (fun σ => passAt (takes_of rfl rfl rfl rfl) σ) (pa_cons (pv 0) pa_nil)))
    (pss_cons (ps_if (PW.pt (pw_or (pt_not (pt_val (pcall G_is_whole (hr.mono (by decide)) T.D_is_whole (pa_cons (pv 1) pa_nil)))) (pw_or1 (pt_cmpR op_lt (pv 1) pe_int (nomark _))))) (pss_one (ps_raiseW rfl T.base T.c_InvalidModulus hr (takes_of rfl rfl rfl rfl) (pa_cons (pv 1) pa_nil))) pss_nil)
    (pss_one (ps_ret (pcall G_inverse_in (hr.mono (by decide)) T.D_inverse_in (pa_cons (pv 0) (pa_cons (pv 1) pa_nil))))))), fun W x hC he => ?_⟩
  obtain ⟨d, e⟩ := x
  obtain ⟨C1, C2⟩ : sq (wI d) ∧ sq (wI e) := hC
  dsimp only at he ⊢
  refine tys_seqG (φ := isWholeD d = true) (tys_dropR (tyr_callX d trivial (tya_cons (ty_var rfl) tya_nil) fun b hb => ?_) fun H0 v H z => bNum_none (badO_none z.1)) fun q => ?_
  · by_cases q : isWholeD d = true
    · unfold bNum at hb; rw [if_pos q] at hb; cases hb
    · exact he _ _ (by unfold bInv; rw [if_neg q]; unfold bNum at hb; rw [if_neg q] at hb; exact hb)
  have e1 : bInv d e = if mod1 e = true then none else some (.mod, e) := if_pos q
  rw [e1] at he ⊢
  refine tys_guard (φ := (· = !mod1 e)) ?_ (fun z => ?_) fun z => ?_
  · cases e with
    | int b => exact Tt.is (tt_orB (a := false) (Tt.is (tt_notB (tt_B (ty_call (PyData.int b) trivial (by tm_at "tya")))) rfl) fun _ => tt_test (ty_op (ty_var rfl) ty_int opt_lt)) (by show (false || decide (b < 1)) = !decide (1 ≤ b); by_cases c : b < 1 <;> simp [c] <;> omega)
    | _ => exact tt_orTr (Tt.is (tt_notB (tt_B (ty_call _ trivial (by tm_at "tya")))) rfl)
  · have q2 : mod1 e = false := bnot1 z
    exact tys_raiseG (T := dt K e) (by tm_at "ty") (he _ _ (by rw [if_neg (bfalse q2)]; rfl))
  · have q2 : mod1 e = true := bnot0 z
    obtain ⟨n, rfl⟩ := whole_int q
    obtain ⟨m, rfl, m1⟩ := mod1_form q2
    exact TyS.never (tys_retX (by rw [if_pos q2]; rfl) (Ty.tyr (ty_call (n, m) ⟨C1, C2, m1⟩ (tya_cons (ty_var rfl) (tya_cons (ty_var rfl) tya_nil)))))
end
section
variable {P : Program} {w : World} {K : PySem.W.Frag} {mg : Str → Option Value} {base : Heap}
def prD (p : Nat × Nat) : PyData := .tuple [.int (p.1 : Nat), .int (p.2 : Nat)]
def prT (K : PySem.W.Frag) (p : Nat × Nat) : Typ := dt K (prD p)
theorem dec_mod {l t : Nat} : decide (((l : Nat) : Int) % ((t : Nat) : Int) = 0) = decide (l % t = 0) := decide_eq_decide.mpr (by exact_mod_cast Iff.rfl)
theorem ty_pr {W : Wd} {Γ : Gam} {K : PySem.W.Frag} {te tb : TE} {t c : Nat} (h : Ty W Γ te (dt K (.int (t : Nat)))) (k : Ty W Γ tb (dt K (.int (c : Nat)))) : Ty W Γ (tTup (tCons te (tCons tb tNil))) (prT K (t, c)) := ty_tupD (ds := [.int (t : Nat), .int (c : Nat)]) (tya_cons h (tya_cons k tya_nil)) (by show 2 ≤ 1000000; decide)
def facG (K : PySem.W.Frag) (n : Nat) (D : Addr) (s : Nat × Nat × List (Nat × Nat)) : Gam := [some (dt K (.int (n : Nat))), some (isV (.ref D)), some (dt K (.int (s.1 : Nat))), some (dt K (.int (s.2.1 : Nat))), none]
def sp_factors_of (K : PySem.W.Frag) : Sp := spT (fun n : Nat => 0 < n ∧ n ≤ 1000000000000) (fun n => [dt K (.int (n : Nat))]) (fun n => dt K (.list ((facN n).map prD)))
theorem ok_factors_of (T : Tx P K mg) : FnOk P w K mg base (L2.CX P w) 1 T.a_factors_of T.f_factors_of ["number"] (sp_factors_of K) := by
  have nd := sc_factors_of.nd
  refine fn_ty T.F_factors_of sc_factors_of (fun x _ => rfl) fun cdv Ar outer s H E hr => ⟨_, (pss_cons (ps_par3 (i := 1) (j := 2) (l := 3) rfl nd rfl rfl rfl (by decide) (by decide) (by decide) rfl rfl rfl (pa_cons (pe_lst pa_nil) (pa_cons (pv 0) (pa_cons pe_int pa_nil))) (by rfl))
    (pss_cons (ps_while PassesOwn.never (PW.pt (pw_and (pt_cmpR op_le (pe_op op_mulA (pv 3) (pv 3)) (pv 2) (nomark _)) (pw_and1 (pt_cmpR op_le (pv 3) (pglob T.g_MOST_TRIED) (nomark _))))) (pss_cons (pset 4 nd pe_int)
    (pss_cons (ps_while PassesOwn.never (pt_cmpR (k_eq (K := K) rfl hr.units) (pe_op op_mod (pv 2) (pv 3)) pe_int (nomark _)) (pss_one (ps_par (i := 2) (j := 4) rfl nd rfl rfl (by decide) rfl rfl (pa_cons (pe_op op_divA (pv 2) (pv 3)) (pa_cons (pe_op (k_add (K := K) rfl) (pv 4) pe_int) pa_nil)) (by rfl))))
    (pss_cons (ps_if (pt_cmpR op_gt (pv 4) pe_int (nomark _)) (pss_one (ps_expr (k_append (K := K) rfl (pv 1) (pa_cons (pe_tup (pa_cons (pv 3) (pa_cons (pv 4) pa_nil))) pa_nil)))) pss_nil)
    (pss_one (k_aug 3 nd pe_int))))))
    (pss_cons (ps_if (PW.pt (pw_and (pt_cmpR op_gt (pv 2) pe_int (nomark _)) (pw_and1 (pt_cmpR op_le (pe_op op_mulA (pv 3) (pv 3)) (pv 2) (nomark _))))) (pss_one (ps_ret pe_non)) pss_nil)
    (pss_one (ps_ret (pe_ifExp (pt_cmpR op_gt (pv 2) pe_int (nomark _)) (pe_lst (k_star (K := K) rfl (pv 1) (pa_cons (pe_tup (pa_cons (pv 2) (pa_cons pe_int pa_nil))) pa_nil))) (pv 1))))))), fun W x hC => ?_⟩
  obtain ⟨n0, n1⟩ : 0 < x ∧ x ≤ 1000000000000 := hC
  have nl := (FaI.start n0 n1).l
  refine TyS.never (tys_own3 (a := (x : Nat)) (b := ((2 : Nat) : Int)) (K := K) (tyl_lst tya_nil (by show 0 ≤ 1000000; decide)) (ty_var rfl) (Ty.is ty_int rfl) fun D nb nm => ?_)
  refine tys_seqX (W' := fun s : { s : Nat × Nat × List (Nat × Nat) // FaI x s ∧ ¬ (s.2.1 * s.2.1 ≤ s.1 ∧ s.2.1 ≤ 1000000) } => W.own D nb (s.1.2.2.map (prT K))) (Γ' := fun s => facG K x D s.1) ?_ fun s => ?_
  · refine tys_whileW (FaI x) (fun s => W.own D nb (s.2.2.map (prT K))) (facG K x D) (fun s => 1000002 - s.2.1) (x, 2, []) (FaI.start n0 n1) (fun _ => ⟨rfl, rfl⟩) (fun σ H g => g) fun s I => ⟨fun b => b = true ↔ (s.2.1 * s.2.1 ≤ s.1 ∧ s.2.1 ≤ 1000000), ?_, fun z => ?_, fun z σ H g => ⟨⟨s, I, fun w => Bool.noConfusion (z.mpr w)⟩, g⟩⟩
    · obtain ⟨l, t, acc⟩ := s
      have t1 : t ≤ 1000001 := I.t1
      refine (tt_andB (a := decide (t * t ≤ l)) (b := decide (t ≤ 1000000)) (Tt.is (tt_test (ty_op (ty_op (ty_var rfl) (ty_var rfl) (opt_mul (.inl ⟨by show -(2 ^ 64) < ((t : Nat) : Int); omega, by show ((t : Nat) : Int) < 2 ^ 64; omega⟩))) (ty_var rfl) opt_le)) (decide_eq_decide.mpr (by exact_mod_cast Iff.rfl))) fun _ => Tt.is (tt_test (ty_op (ty_var rfl) ty_int opt_le)) (decide_eq_decide.mpr (by show ((t : Nat) : Int) ≤ 1000000 ↔ t ≤ 1000000; omega))).sub fun b hb => ?_
      subst hb
      show (decide _ && decide _) = true ↔ _
      rw [Bool.and_eq_true, decide_eq_true_iff, decide_eq_true_iff]
    · obtain ⟨l, t, acc⟩ := s
      have hz : t * t ≤ l ∧ t ≤ 1000000 := z.mp rfl
      have t0 : 2 ≤ t := I.t0
      have lp : 0 < l := I.p
      have lb : l ≤ 1000000000000 := I.b
      have al : acc.length + 2 ≤ t := I.l
      have bt : bd 20 ((t : Nat) : Int) := by unfold bd; omega
      show TyS (W.own D nb (acc.map (prT K))) [some (dt K (.int (x : Nat))), some (isV (.ref D)), some (dt K (.int (l : Nat))), some (dt K (.int (t : Nat))), none] _ _ _ _ _
      refine tys_seqE (W' := W.own D nb (acc.map (prT K))) (Γ' := [some (dt K (.int (x : Nat))), some (isV (.ref D)), some (dt K (.int (l : Nat))), some (dt K (.int (t : Nat))), some (dt K (.int ((0 : Nat) : Int)))]) (tys_set (Ty.is ty_int rfl)) ?_
      refine tys_seqE (W' := W.own D nb (acc.map (prT K))) (Γ' := [some (dt K (.int (x : Nat))), some (isV (.ref D)), some (dt K (.int ((stripF 41 l t).1 : Nat))), some (dt K (.int (t : Nat))), some (dt K (.int ((stripF 41 l t).2 : Nat)))]) ?_ ?_
      · refine tys_while (StI l t) (fun s => [some (dt K (.int (x : Nat))), some (isV (.ref D)), some (dt K (.int (s.1 : Nat))), some (dt K (.int (t : Nat))), some (dt K (.int (s.2 : Nat)))]) (fun s => s.1) (l, 0) (StI.start lp lb) (fun σ H g => g) fun s J => ⟨(· = decide (s.1 % t = 0)), Tt.is (tt_test (ty_op (ty_op (ty_var rfl) (ty_var rfl) (opt_mod (by omega))) ty_int opt_eqI)) dec_mod, fun w => ?_, fun w σ H g => by rw [J.end (of_decide_eq_false w.symm)]; exact g⟩
        obtain ⟨k1, k2⟩ := J.step t0 (of_decide_eq_true w.symm)
        exact TyS.imp (tys_par (A := dt K (.int ((s.1 / t : Nat) : Int))) (tya_cons (Ty.is (ty_op (ty_var rfl) (ty_var rfl) (opt_div (bt.div_ok (by omega) (by decide)))) (by rw [Int.natCast_ediv])) (tya_cons (ty_op (ty_var rfl) ty_int opt_add) tya_nil))) fun σ H g => ⟨_, k1, k2, g.1, EnvL.less (by exact ⟨fun _ _ _ _ h => h, fun _ _ _ _ h => h, fun _ _ _ _ h => h, fun _ _ _ _ h => h, fun _ _ _ _ h => h, True.intro⟩) g.2⟩
      · have nx := I.step (s := (l, t, acc)) hz
        have e1 : (nextF (l, t, acc)).2.2 = acc ++ (if 0 < (stripF 41 l t).2 then [(t, (stripF 41 l t).2)] else []) := rfl
        refine tys_seqE (W' := W.own D nb ((nextF (l, t, acc)).2.2.map (prT K))) (Γ' := [some (dt K (.int (x : Nat))), some (isV (.ref D)), some (dt K (.int ((stripF 41 l t).1 : Nat))), some (dt K (.int (t : Nat))), some (dt K (.int ((stripF 41 l t).2 : Nat)))]) ?_ ?_
        · refine tys_if (φ := (· = decide (0 < (stripF 41 l t).2))) (Tt.is (tt_test (ty_op (ty_var rfl) ty_int opt_gt)) (decide_eq_decide.mpr (by omega))) (fun w => ?_) fun w => ?_
          · have w1 := of_decide_eq_true w.symm
            rw [e1, if_pos w1, List.map_append]
            exact tys_append rfl (ty_pr (ty_var rfl) (ty_var rfl)) (by rw [List.length_map]; omega)
          · have w1 := of_decide_eq_false w.symm
            rw [e1, if_neg w1, List.append_nil]
            exact tys_next
        · exact TyS.imp (tys_aug (a := (t : Nat)) (b := 1) rfl ty_int) fun σ H g => ⟨_, nx, by show 1000002 - (t + 1) < 1000002 - t; omega, g.1, EnvL.less (by exact ⟨fun _ _ _ _ h => h, fun _ _ _ _ h => h, fun _ _ _ _ h => h, fun _ _ _ _ h => h, True.intro⟩) g.2⟩
  · obtain ⟨⟨l, t, acc⟩, I, hz⟩ := s
    obtain ⟨e1, e2⟩ := I.end hz
    have e1 : acc ++ restF l = facN x := e1
    have t1 : t ≤ 1000001 := I.t1
    have al : acc.length + 2 ≤ t := I.l
    refine tys_finN (i := 1) rfl nm ?_
    show TyS W [some (dt K (.int (x : Nat))), some (lstT (acc.map (prT K))), some (dt K (.int (l : Nat))), some (dt K (.int (t : Nat))), none] _ _ _ _ _
    refine tys_guard (φ := (· = false)) (Tt.is (tt_andB (a := decide (1 < l)) (b := false) (Tt.is (tt_test (ty_op (ty_var rfl) ty_int opt_gt)) (decide_eq_decide.mpr (by omega))) fun _ => Tt.is (tt_test (ty_op (ty_op (ty_var rfl) (ty_var rfl) (opt_mul (.inl ⟨by omega, by omega⟩))) (ty_var rfl) opt_le)) (decide_eq_false (by
      intro q
      exact e2 (by exact_mod_cast q)))) (by rw [Bool.and_false])) (fun z => Bool.noConfusion z) fun _ => ?_
    refine tys_retW (Ty.is ((ty_if (φ := (· = decide (1 < l))) (T := lstT ((acc ++ restF l).map (prT K))) (Tt.is (tt_test (ty_op (ty_var rfl) ty_int opt_gt)) (decide_eq_decide.mpr (by omega))) (fun w => ?_) fun w => ?_).sub fun v H _ z => lstT_data (K := K) (ds := (acc ++ restF l).map prD) (by rw [List.map_map]; exact z)) (by rw [e1]))
    · have w1 := of_decide_eq_true w.symm
      have r : restF l = [(l, 1)] := if_pos w1
      rw [r, List.map_append]
      exact (tyl_lst (tya_star (ty_var rfl) (tya_cons (ty_pr (ty_var rfl) (Ty.is ty_int rfl)) tya_nil)) (by rw [List.length_append, List.length_map]; show acc.length + 1 ≤ 1000000; omega)).ty
    · have w1 := of_decide_eq_false w.symm
      have r : restF l = [] := if_neg w1
      rw [r, List.append_nil]
      exact ty_var rfl
end
section
variable {P : Program} {w : World} {K : PySem.W.Frag} {mg : Str → Option Value} {base : Heap}
def okPr (d : PyData) : Bool := betD d 1 1000000000000
def facD (d : PyData) : PyData := .tuple ((facN (wI d).toNat).map prD)
theorem bet_form {d : PyData} {a b : Int} (h : betD d a b = true) : ∃ n, d = .int n ∧ a ≤ n ∧ n ≤ b := by
  cases d <;> simp [betD] at h
  exact ⟨_, rfl, h⟩
def bPrimes (d : PyData) : Option (Cls × PyData) := if okPr d = true then none else some (.num, d)
def sp_primes_in (T : Tx P K mg) : Sp := spX (fun _ : PyData => True) (fun d => [dt K d]) (fun d => rT (dt K (facD d))) (fun d => badO T (bPrimes d))
theorem ok_primes_in (T : Tx P K mg) : FnOk P w K mg base (L2.CX P w) 6 T.a_primes_in T.f_primes_in ["number"] (sp_primes_in T) := by
  have G_factors_of := ok_factors_of (w := w) (base := base) T
  have G_is_whole := ok_is_whole (w := w) (base := base) T
  have nd := sc_primes_in.nd
  refine fn_tyX T.F_primes_in sc_primes_in (fun x _ => rfl) fun cdv Ar outer s H E hr => ⟨_, (pss_cons (ps_if (PW.pt (pw_or (pt_not (pt_val (pcall G_is_whole (hr.mono (by decide)) T.D_is_whole (pa_cons (pv 0) pa_nil)))) (pw_or1 (pt_not (pt_chain op_le op_le pe_int (pv 0) pe_int))))) (pss_one (ps_raiseW rfl T.base T.c_InvalidNumber hr (takes_of rfl rfl rfl rfl) (pa_cons (pv 0) pa_nil))) pss_nil)
    (pss_one (ps_ret (k_tuple (K := K) rfl T.m_tuple (pa_cons (pcall G_factors_of (hr.mono (by decide)) T.D_factors_of (pa_cons (pv 0) pa_nil)) pa_nil))))), fun W x hC he => ?_⟩
  refine tys_guard (φ := (· = !okPr x)) ?_ (fun z => ?_) fun z => ?_
  · cases x with
    | int n =>
      refine Tt.is (tt_orB (a := false) (b := !(decide (1 ≤ n) && decide (n ≤ 1000000000000))) (Tt.is (tt_notB (tt_B (ty_call (PyData.int n) trivial (by tm_at "tya")))) rfl) fun _ => tt_notB (tt_test (ty_chain ty_int (ty_var rfl) opt_le (fun _ => ty_int) opt_le))) rfl
    | _ => exact tt_orTr (Tt.is (tt_notB (tt_B (ty_call _ trivial (by tm_at "tya")))) rfl)
  · have e : okPr x = false := bnot1 z
    exact tys_raiseG (T := dt K x) (by tm_at "ty") (he _ _ (by unfold bPrimes; rw [if_neg (bfalse e)]; rfl))
  · have e : okPr x = true := bnot0 z
    obtain ⟨n, rfl, n0, n1⟩ := bet_form e
    have en : ((n.toNat : Nat) : Int) = n := Int.toNat_of_nonneg (by omega)
    refine TyS.never (tys_retX (by unfold bPrimes; rw [if_pos e]; rfl) (Ty.tyr (T := dt K (facD (.int n))) ?_))
    exact (ty_cb (tya_cons ((ty_call n.toNat ⟨by omega, by omega⟩ (tya_cons (Ty.is (ty_var rfl) (by rw [en])) tya_nil)).sub fun _ _ _ => data_lstT) tya_nil) cbt_tupL).sub fun _ _ _ => tupT_data (ds := (facN n.toNat).map prD)
end
section
variable {P : Program} {w : World} {K : PySem.W.Frag} {mg : Str → Option Value} {base : Heap}
def isPrimeD (d : PyData) : Bool := betD d 2 1000000 && decide (facN (wI d).toNat = [((wI d).toNat, 1)])
theorem prD_ints (l : List (Nat × Nat)) : l.map prD = (l.map fun p => [(p.1 : Int), (p.2 : Int)]).map intsD := by rw [List.map_map]; rfl
theorem shaped_prs (l : List (Nat × Nat)) : SeqAt.shaped (.list (l.map prD)) = true := by
  rw [prD_ints]
  obtain ⟨k1, k2⟩ := lay_tab (l.map fun p => [(p.1 : Int), (p.2 : Int)])
  unfold SeqAt.shaped
  rw [PyData.canLay0, k1, PyData.depth, Bool.true_and]
  exact decide_eq_true (by omega)
theorem pr_inj : ∀ {a b : List (Nat × Nat)}, (a.map fun p => [(p.1 : Int), (p.2 : Int)]) = (b.map fun p => [(p.1 : Int), (p.2 : Int)]) ↔ a = b := by
  intro a b
  refine ⟨fun h => ?_, fun h => by rw [h]⟩
  refine List.map_inj_right (fun p q e => ?_) |>.mp h
  simp at e
  exact Prod.ext (by exact_mod_cast e.1) (by exact_mod_cast e.2)
theorem opt_eqPr {W : Wd} {K : PySem.W.Frag} {a b : List (Nat × Nat)} : OpT W (rEqA K) (dt K (.list (a.map prD))) (dt K (.list (b.map prD))) (dt K (.bool (decide (a = b)))) := by
  have z := opt_eqD (W := W) (K := K) (shaped_prs a) (shaped_prs b)
  have e : PyData.eqv (.list (a.map prD)) (.list (b.map prD)) = decide (a = b) := by
    rw [prD_ints, prD_ints, PyData.eqv, eqvAll_tab]
    exact decide_eq_decide.mpr pr_inj
  rw [e] at z
  exact z
def sp_is_prime (K : PySem.W.Frag) : Sp := spT (fun _ : PyData => True) (fun d => [dt K d]) (fun d => dt K (.bool (isPrimeD d)))
theorem ok_is_prime (T : Tx P K mg) : FnOk P w K mg base (L2.CX P w) 3 T.a_is_prime T.f_is_prime ["value"] (sp_is_prime K) := by
  have G_is_between := ok_is_between (w := w) (base := base) T
  have G_factors_of := ok_factors_of (w := w) (base := base) T
  have nd := sc_is_prime.nd
  refine fn_ty T.F_is_prime sc_is_prime (fun x _ => rfl) fun cdv Ar outer s H E hr => ⟨_, (pss_one (ps_ret (pe_and (pcall G_is_between (hr.mono (by decide)) T.D_is_between (pa_cons (pv 0) (pa_cons pe_int (pa_cons (pglob T.g_MOST_TRIED) pa_nil)))) (pe_one (pe_cmpR (k_eq (K := K) rfl hr.units) (pcall G_factors_of (hr.mono (by decide)) T.D_factors_of (pa_cons (pv 0) pa_nil)) (pe_lst (pa_cons (pe_tup (pa_cons (pv 0) (pa_cons pe_int pa_nil))) pa_nil)) (nomark _)))))), fun W x hC => ?_⟩
  refine TyS.never (tys_retW (Ty.is (ty_andV (a := betD x 2 1000000) (b := decide (facN (wI x).toNat = [((wI x).toNat, 1)])) (ty_call (x, 2, 1000000) trivial (tya_cons (ty_var rfl) (tya_cons ty_int (tya_cons ty_int tya_nil)))) fun h => ?_) rfl))
  obtain ⟨n, rfl, n0, n1⟩ := bet_form h
  have en : ((n.toNat : Nat) : Int) = n := Int.toNat_of_nonneg (by omega)
  have hv : Ty W (List.map some [dt K (PyData.int n)] ++ List.replicate 0 none) (tVar 0) (dt K (.int (n.toNat : Nat))) := Ty.is (ty_var rfl) (by rw [en])
  exact ty_op (ty_call n.toNat ⟨by omega, by omega⟩ (tya_cons hv tya_nil)) (ty_lstD (ds := [prD (n.toNat, 1)]) (tya_cons (ty_pr hv (Ty.is ty_int rfl)) tya_nil) (by show 1 ≤ 1000000; decide)) (opt_eqPr (b := [(n.toNat, 1)]))
end
section
variable {P : Program} {w : World} {K : PySem.W.Frag} {mg : Str → Option Value} {base : Heap}
def sp_power_in (K : PySem.W.Frag) : Sp := spT (fun x : Int × Int => x.1 ≠ 0 ∧ x.1.natAbs < 2 ^ 60 ∧ 2 ≤ x.2 ∧ x.2 ≤ 1000000) (fun x => [dt K (.int x.1), dt K (.int x.2)]) (fun x => dt K (.int (powF 60 x.1 x.2 : Nat)))
theorem ok_power_in (T : Tx P K mg) : FnOk P w K mg base (L2.CX P w) 1 T.a_power_in T.f_power_in ["number", "prime"] (sp_power_in K) := by
  have nd := sc_power_in.nd
  refine fn_ty T.F_power_in sc_power_in (fun x _ => rfl) fun cdv Ar outer s H E hr => ⟨_, (pss_cons (ps_par (i := 2) (j := 3) rfl nd rfl rfl (by decide) rfl rfl (pa_cons pe_int (pa_cons (pv 0) pa_nil)) (by rfl))
    (pss_cons (ps_while PassesOwn.never (pt_cmpR (k_eq (K := K) rfl hr.units) (pe_op op_mod (pv 3) (pv 1)) pe_int (nomark _)) (pss_one (ps_par (i := 2) (j := 3) rfl nd rfl rfl (by decide) rfl rfl (pa_cons (pe_op (k_add (K := K) rfl) (pv 2) pe_int) (pa_cons (pe_op op_divA (pv 3) (pv 1)) pa_nil)) (by rfl))))
    (pss_one (ps_ret (pv 2))))), fun W x hC => ?_⟩
  obtain ⟨n, p⟩ := x
  obtain ⟨h1, h2, h3, h4⟩ : n ≠ 0 ∧ n.natAbs < 2 ^ 60 ∧ 2 ≤ p ∧ p ≤ 1000000 := hC
  have bp : bd 20 p := by unfold bd; omega
  refine tys_seqE (W' := W) (Γ' := [some (dt K (.int n)), some (dt K (.int p)), some (dt K (.int ((0 : Nat) : Int))), some (dt K (.int n))]) (tys_par (tya_cons (Ty.is ty_int rfl) (tya_cons (ty_var rfl) tya_nil))) ?_
  refine tys_seqX (α := { s : Nat × Int // s.1 = powF 60 n p }) (W' := fun _ => W) (Γ' := fun s => [some (dt K (.int n)), some (dt K (.int p)), some (dt K (.int (s.1.1 : Nat))), some (dt K (.int s.1.2))]) ?_ fun s => TyS.never (tys_retW (Ty.is (ty_var rfl) (by rw [s.2])))
  refine tys_while (PoI n p) (fun s => [some (dt K (.int n)), some (dt K (.int p)), some (dt K (.int (s.1 : Nat))), some (dt K (.int s.2))]) (fun s => s.2.natAbs) (0, n) (PoI.start h1 h2) (fun σ H g => g) fun s I => ⟨(· = decide (s.2 % p = 0)), tt_test (ty_op (ty_op (ty_var rfl) (ty_var rfl) (opt_mod (by omega))) ty_int opt_eqI), fun z => ?_, fun z σ H g => ⟨⟨s, I.end (of_decide_eq_false z.symm)⟩, g⟩⟩
  obtain ⟨k1, k2⟩ := I.step h3 (of_decide_eq_true z.symm)
  exact TyS.imp (tys_par (tya_cons (ty_op (ty_var rfl) ty_int opt_add) (tya_cons (ty_op (ty_var rfl) (ty_var rfl) (opt_div (bp.div_ok (by omega) (by decide)))) tya_nil))) fun σ H g => ⟨_, k1, k2, g.1, EnvL.less (by exact ⟨fun _ _ _ _ h => h, fun _ _ _ _ h => h, fun _ _ _ _ h => h, fun _ _ _ _ h => h, True.intro⟩) g.2⟩
end
section
variable {P : Program} {w : World} {K : PySem.W.Frag} {mg : Str → Option Value} {base : Heap}
def bVal (d e : PyData) : Option (Cls × PyData) := if isWholeD d = true then (if isPrimeD e = true then none else some (.pri, e)) else some (.num, d)
def valD (d e : PyData) : PyData := if wI d = 0 then .none else .int (powF 60 (wI d) (wI e) : Nat)
def valC (x : PyData × PyData) : Prop := isPrimeD x.2 = true → (wI x.1).natAbs < 2 ^ 60
def sp_valuation (T : Tx P K mg) : Sp := spX valC (fun x => [dt K x.1, dt K x.2]) (fun x => rT (dt K (valD x.1 x.2))) (fun x => badO T (bVal x.1 x.2))
theorem ok_valuation (T : Tx P K mg) : FnOk P w K mg base (L2.CX P w) 7 T.a_valuation T.f_valuation ["number", "prime"] (sp_valuation T) := by
  have G_check_number := ok_check_number (w := w) (base := base) T
  have G_is_prime := ok_is_prime (w := w) (base := base) T
  have G_power_in := ok_power_in (w := w) (base := base) T
  have nd := sc_valuation.nd
  refine fn_tyX T.F_valuation sc_valuation (fun x _ => rfl) fun cdv Ar outer s H E hr => ⟨_, (pss_cons (ps_expr (pe_callS G_check_number (hr.mono (by decide)) rfl T.D_check_number.g T.D_check_number.k T.D_check_number.b (fun σ => passAt (takes_of rfl rfl rfl rfl) σ) (pa_cons (pv 0) pa_nil)))
    (pss_cons (ps_if (pt_not (pt_val (pcall G_is_prime (hr.mono (by decide)) T.D_is_prime (pa_cons (pv 1) pa_nil)))) (pss_one (ps_raiseW rfl T.base T.c_InvalidPrime hr (takes_of rfl rfl rfl rfl) (pa_cons (pv 1) pa_nil))) pss_nil)
    (pss_one (ps_ret (pe_ifExp (pt_cmpR (k_eq (K := K) rfl hr.units) (pv 0) pe_int (nomark _)) pe_non (pcall G_power_in (hr.mono (by decide)) T.D_power_in (pa_cons (pv 0) (pa_cons (pv 1) pa_nil)))))))), fun W x hC he => ?_⟩
  obtain ⟨d, e⟩ := x
  have C : isPrimeD e = true → (wI d).natAbs < 2 ^ 60 := hC
  dsimp only at he ⊢
  refine tys_seqG (φ := isWholeD d = true) (tys_dropR (tyr_callX d trivial (tya_cons (ty_var rfl) tya_nil) fun b hb => ?_) fun H0 v H z => bNum_none (badO_none z.1)) fun q => ?_
  · by_cases q : isWholeD d = true
    · unfold bNum at hb; rw [if_pos q] at hb; cases hb
    · exact he _ _ (by unfold bVal; rw [if_neg q]; unfold bNum at hb; rw [if_neg q] at hb; exact hb)
  have e1 : bVal d e = if isPrimeD e = true then none else some (.pri, e) := if_pos q
  rw [e1] at he ⊢
  refine tys_guard (φ := (· = !isPrimeD e)) (tt_notB (tt_B (ty_call e trivial (tya_cons (ty_var rfl) tya_nil)))) (fun z => ?_) fun z => ?_
  · have q2 : isPrimeD e = false := bnot1 z
    exact tys_raiseG (T := dt K e) (by tm_at "ty") (he _ _ (by rw [if_neg (bfalse q2)]; rfl))
  · have q2 : isPrimeD e = true := bnot0 z
    have C2 := C q2
    obtain ⟨n, rfl⟩ := whole_int q
    have q3 : betD e 2 1000000 = true := by unfold isPrimeD at q2; rw [Bool.and_eq_true] at q2; exact q2.1
    obtain ⟨p, rfl, p0, p1⟩ := bet_form q3
    refine TyS.never (tys_retX (by rw [if_pos q2]; rfl) (Ty.tyr (T := dt K (valD (.int n) (.int p))) (ty_if (φ := (· = decide (n = 0))) (tt_test (ty_op (ty_var rfl) ty_int opt_eqI)) (fun w => ?_) fun w => ?_)))
    · exact Ty.is ty_non (by unfold valD; rw [if_pos (show wI (.int n) = 0 from of_decide_eq_true w.symm)])
    · have nz := of_decide_eq_false w.symm
      exact Ty.is (ty_call (n, p) ⟨nz, C2, p0, p1⟩ (tya_cons (ty_var rfl) (tya_cons (ty_var rfl) tya_nil))) (by unfold valD; rw [if_neg (show ¬ wI (.int n) = 0 from nz)]; rfl)
end
section
variable {P : Program} {w : World} {K : PySem.W.Frag} {mg : Str → Option Value} {base : Heap}
abbrev absI (g : Int) : Int := if g < 0 then -g else g
def boxTs (K : PySem.W.Frag) (g : Int) : List Typ := [dt K (.int (absI g)), dt K (.bool (decide ((10 : Int) ^ (18 : Int).toNat ≤ absI g))), dt K (.int (absI g % 2147483629)), dt K (.int 0)]
def sp_law_box (K : PySem.W.Frag) : Sp := spL (fun _ : Int => True) (fun g => [dt K (.int g)]) (boxTs K)
theorem boxTs_box {K : PySem.W.Frag} {M B : Addr → Prop} {g : Int} {xs : List V} {H : Hp} (h : TysV M B (boxTs K g) xs H) : BxL xs := by
  match xs, h with
  | [a, b, c, d], h =>
    obtain ⟨h1, h2, h3, h4, _⟩ := h
    cases h1; cases h2; cases h3; cases h4
    exact ⟨_, _, _, _, rfl, by omega, by omega⟩
theorem ok_law_box (T : Tx P K mg) : FnOk P w K mg base (L2.CX P w) 1 T.a_law_box T.f_law_box ["great"] (sp_law_box K) := by
  have nd := sc_law_box.nd
  refine fn_tyL T.F_law_box sc_law_box (fun x _ => rfl) fun cdv Ar outer s H E hr => ⟨_, (pss_one (ps_ret (pe_lst (pa_cons (bi_abs T.m_abs (pa_cons (pv 0) pa_nil)) (pa_cons (pe_cmpR op_ge (bi_abs T.m_abs (pa_cons (pv 0) pa_nil)) (pe_op op_pow pe_int pe_int) (nomark _)) (pa_cons (pe_op op_mod (bi_int T.m_int (pa_cons (bi_abs T.m_abs (pa_cons (pv 0) pa_nil)) pa_nil)) pe_int) (pa_cons pe_int pa_nil))))))), fun W x hC => ?_⟩
  exact TyS.never (tys_retL (tyl_lst (Ts := boxTs K x) (by unfold boxTs; tm_at "tya") (by show 4 ≤ 1000000; decide)))
end
section
variable {P : Program} {w : World} {K : PySem.W.Frag} {mg : Str → Option Value} {base : Heap}
def sp_law_take (K : PySem.W.Frag) : Sp := spT (fun n : Nat => 0 < n ∧ n ≤ 1000000) (fun n => [bx, dt K (.int (n : Nat))]) (fun n => digT K n)
theorem ix4 (a b c d : V) : atI [a, b, c, d] 0 = some a ∧ atI [a, b, c, d] 1 = some b ∧ atI [a, b, c, d] 2 = some c ∧ atI [a, b, c, d] 3 = some d := ⟨atI_nat (j := 0) rfl, atI_nat (j := 1) rfl, atI_nat (j := 2) rfl, atI_nat (j := 3) rfl⟩
theorem dig_of {K : PySem.W.Frag} {M B : Addr → Prop} {H : Hp} {n : Nat} {i : Int} (h0 : 0 ≤ i) (h1 : i < n) : (digT K n).p M B (.int i) H := by
  refine ⟨i.toNat, by omega, ?_⟩
  have e : ((i.toNat : Nat) : Int) = i := Int.toNat_of_nonneg h0
  show Rp M K H (.int i) (.int ((i.toNat : Nat) : Int))
  rw [e]; exact .int i
theorem ok_law_take (T : Tx P K mg) : FnOk P w K mg base (L2.CX P w) 1 T.a_law_take T.f_law_take ["box", "many"] (sp_law_take K) := by
  have nd := sc_law_take.nd
  refine fn_ty T.F_law_take sc_law_take (fun x _ => rfl) fun cdv Ar outer s H E hr => ⟨_, (pss_cons (ps_if (PW.pt (pw_and (pt_val (pe_ix (k_ix (K := K) rfl) (pv 0) pe_int (fun _ _ => rfl))) (pw_and1 (pt_cmpR op_gt (pe_ix (k_ix (K := K) rfl) (pv 0) pe_int (fun _ _ => rfl)) pe_int (nomark _))))) (pss_cons (pset 2 nd (pe_op op_mod (bi_int T.m_int (pa_cons (pe_ix (k_ix (K := K) rfl) (pv 0) pe_int (fun _ _ => rfl)) pa_nil)) (pv 1)))
    (pss_cons (ps_asg (pe_op op_divA (bi_int T.m_int (pa_cons (pe_ix (k_ix (K := K) rfl) (pv 0) pe_int (fun _ _ => rfl)) pa_nil)) (pv 1)) (pg_sub (pv 0) pe_int set_list))
    (pss_one (ps_ret (pv 2))))) pss_nil)
    (pss_cons (ps_asg (pe_op (k_add (K := K) rfl) (pe_ix (k_ix (K := K) rfl) (pv 0) pe_int (fun _ _ => rfl)) pe_int) (pg_sub (pv 0) pe_int set_list))
    (pss_cons (ps_asg (pe_op op_mod (pe_op (k_add (K := K) rfl) (pe_op (k_add (K := K) rfl) (pe_op op_mulA (pe_ix (k_ix (K := K) rfl) (pv 0) pe_int (fun _ _ => rfl)) pe_int) (pe_op op_mulA pe_int (pe_ix (k_ix (K := K) rfl) (pv 0) pe_int (fun _ _ => rfl)))) pe_int) pe_int) (pg_sub (pv 0) pe_int set_list))
    (pss_one (ps_ret (pe_op op_mod (pe_op op_divA (pe_ix (k_ix (K := K) rfl) (pv 0) pe_int (fun _ _ => rfl)) pe_int) (pv 1))))))), fun W x hC => ?_⟩
  obtain ⟨n0, n1⟩ := hC
  intro σ H c g D dn dr db dc
  obtain ⟨_, g1, g2⟩ : ∃ z : σ.length = 3, (∃ u, σ[0]? = some (some u) ∧ bx.p W.M W.B u H) ∧ (∃ u, σ[1]? = some (some u) ∧ (dt K (.int (x : Nat))).p W.M W.B u H) := ⟨g.length, g.get (i := 0) rfl, g.get (i := 1) rfl⟩
  obtain ⟨u, s0, p, rfl, hB, xs, hH, gr, b, cc, k, rfl, c0, c1⟩ := g1
  obtain ⟨u, s1, hu⟩ := g2
  cases hu
  obtain ⟨i0, i1, i2, i3⟩ := ix4 (.int gr) (.bl b) (.int cc) (.int k)
  have box : BoxAt H p := ⟨_, hH, gr, b, cc, k, rfl, c0, c1⟩
  have gt : ∀ {Q : Bool → Hp → Prop}, Q (b && decide (0 < gr)) H → tAnd (tB (tOp (rIx K) (tVar 0) (tC (.int 1)))) (tTest (tOp (rI0 fun i j => .bl (decide (j < i))) (tOp (rIx K) (tVar 0) (tC (.int 0))) (tC (.int 0)))) σ H Q := fun {Q} q => by
    refine Ev.tbl (ev_ix hH i1 (ev_var s0) ev_c) ?_
    cases b with
    | true => rw [if_pos rfl]; exact Ev.tt (ev_I0 (ev_ix hH i0 (ev_var s0) ev_c) ev_c) (by simpa using q)
    | false => rw [if_neg Bool.false_ne_true]; simpa using q
  refine gt ?_
  cases hb : (b && decide (0 < gr)) with
  | true =>
    rw [if_pos rfl]
    refine ev_I (i := gr) (j := (x : Int)) (by omega) (ev_int (ev_ix hH i0 (ev_var s0) ev_c)) (ev_var s1) _ ?_
    have t0 : (σ.set 2 (some (.int (gr % (x : Int)))))[0]? = some (some (.ref p)) := by rw [List.getElem?_set_ne (by decide)]; exact s0
    have t1 : (σ.set 2 (some (.int (gr % (x : Int)))))[1]? = some (some (.int (x : Int))) := by rw [List.getElem?_set_ne (by decide)]; exact s1
    have t2 : (σ.set 2 (some (.int (gr % (x : Int)))))[2]? = some (some (.int (gr % (x : Int)))) := List.getElem?_set_self (by have gl : σ.length = 3 := g.length; rw [gl]; decide)
    refine ev_put (k := 0) (ev_div (i := gr) (j := (x : Int)) ⟨by omega, ?_⟩ (ev_int (ev_ix hH i0 (ev_var t0) ev_c)) (ev_var t1)) (ev_var t0) ev_c hH rfl ?_
    · have l := Nat.log2_le_self x
      have e : ((x : Int)).natAbs = x := rfl
      rw [e]
      have : x.log2 < 64 := by
        by_cases z : x = 0
        · omega
        · have big : (1000000 : Nat) < 2 ^ 64 := by decide
          exact (Nat.log2_lt z).mpr (by omega)
      omega
    refine ev_var t2 _ (dr _ _ ⟨c.ex.trans (Ex.turn hB box ⟨_, _, _, _, rfl, c0, c1⟩), ?_⟩)
    exact dig_of (Int.emod_nonneg _ (by omega)) (Int.emod_lt_of_pos _ (by omega))
  | false =>
    rw [if_neg Bool.false_ne_true]
    refine ev_put (k := 3) (ev_add (ev_ix hH i3 (ev_var s0) ev_c) ev_c) (ev_var s0) ev_c hH rfl ?_
    obtain ⟨j0, j1, j2, j3⟩ := ix4 (.int gr) (.bl b) (.int cc) (.int (k + 1))
    have hH1 : upd H p (.lst ([V.int gr, .bl b, .int cc, .int k].set 3 (.int (k + 1)))) p = some (.lst [.int gr, .bl b, .int cc, .int (k + 1)]) := upd_same
    refine ev_put (k := 2) (ev_I (by omega) (ev_add (ev_add (ev_mul (.inr ⟨by decide, by decide⟩) (ev_ix hH1 j2 (ev_var s0) ev_c) ev_c) (ev_mul (.inl ⟨by decide, by decide⟩) ev_c (ev_ix hH1 j3 (ev_var s0) ev_c))) ev_c) ev_c) (ev_var s0) ev_c hH1 rfl ?_
    obtain ⟨m0, m1, m2, m3⟩ := ix4 (.int gr) (.bl b) (.int ((cc * 69621 + 1439 * (k + 1) + 31) % 2147483629)) (.int (k + 1))
    refine ev_I (i := (cc * 69621 + 1439 * (k + 1) + 31) % 2147483629 / 64) (j := (x : Int)) (by omega) (ev_div ⟨by decide, by decide⟩ (ev_ix upd_same m2 (ev_var s0) ev_c) ev_c) (ev_var s1) _ (dr _ _ ⟨?_, ?_⟩)
    · have e1 : Ex W.B H (upd H p (.lst [V.int gr, .bl b, .int cc, .int (k + 1)])) := Ex.turn hB box ⟨_, _, _, _, rfl, c0, c1⟩
      exact c.ex.trans (e1.trans (Ex.turn hB ⟨_, upd_same, _, _, _, _, rfl, c0, c1⟩ ⟨_, _, _, _, rfl, by omega, by omega⟩))
    · exact dig_of (Int.emod_nonneg _ (by omega)) (Int.emod_lt_of_pos _ (by omega))
end
section
variable {P : Program} {w : World} {K : PySem.W.Frag} {mg : Str → Option Value} {base : Heap}
def sp_law_common (K : PySem.W.Frag) : Sp := spT (fun _ : Int × Int => True) (fun x => [dt K (.int x.1), dt K (.int x.2)]) (fun x => dt K (.int (gI x.1 x.2)))
theorem ok_law_common (T : Tx P K mg) : FnOk P w K mg base (L2.CX P w) 1 T.a_law_common T.f_law_common ["a", "b"] (sp_law_common K) := by
  have nd := sc_law_common.nd
  refine fn_ty T.F_law_common sc_law_common (fun x _ => rfl) fun cdv Ar outer s H E hr => ⟨_, (pss_cons (ps_par (i := 0) (j := 1) rfl nd rfl rfl (by decide) rfl rfl (pa_cons (bi_abs T.m_abs (pa_cons (pv 0) pa_nil)) (pa_cons (bi_abs T.m_abs (pa_cons (pv 1) pa_nil)) pa_nil)) (by rfl))
    (pss_cons (ps_while PassesOwn.never (pt_cmpR (k_ne (K := K) rfl hr.units) (pv 1) pe_int (nomark _)) (pss_one (ps_par (i := 0) (j := 1) rfl nd rfl rfl (by decide) rfl rfl (pa_cons (pv 1) (pa_cons (pe_op op_mod (bi_int T.m_int (pa_cons (pv 0) pa_nil)) (pv 1)) pa_nil)) (by rfl))))
    (pss_one (ps_ret (pv 0))))), fun W x hC => ?_⟩
  obtain ⟨a, b⟩ := x
  refine tys_seqE (W' := W) (Γ' := [some (dt K (.int (absI' a))), some (dt K (.int (absI' b)))]) (tys_par (tya_cons (ty_cb (tya_cons (ty_var rfl) tya_nil) cbt_abs) (tya_cons (ty_cb (tya_cons (ty_var rfl) tya_nil) cbt_abs) tya_nil))) ?_
  refine tys_seqX (α := { s : Int × Int // 0 ≤ s.1 ∧ gI s.1 s.2 = gI a b ∧ s.2 = 0 }) (W' := fun _ => W) (Γ' := fun s => [some (dt K (.int s.1.1)), some (dt K (.int s.1.2))]) ?_ fun s => TyS.never (tys_retW (Ty.is (ty_var rfl) ?_))
  · refine tys_while (fun s : Int × Int => 0 ≤ s.1 ∧ 0 ≤ s.2 ∧ gI s.1 s.2 = gI a b) (fun s => [some (dt K (.int s.1)), some (dt K (.int s.2))]) (fun s => s.2.toNat) (absI' a, absI' b) ⟨by show 0 ≤ absI' a; unfold absI'; split <;> omega, by show 0 ≤ absI' b; unfold absI'; split <;> omega, gI_abs a b⟩ (fun σ H g => g) fun s I => ⟨(· = !decide (s.2 = 0)), tt_test (ty_op (ty_var rfl) ty_int opt_neI), fun z => ?_, fun z σ H g => ⟨⟨s, I.1, I.2.2, by simpa using z⟩, g⟩⟩
    have nz : s.2 ≠ 0 := by simpa using z
    have p : 0 < s.2 := by have := I.2.1; omega
    have m1 := Int.emod_nonneg s.1 nz
    have m2 := Int.emod_lt_of_pos s.1 p
    exact TyS.imp (tys_par (tya_cons (ty_var rfl) (tya_cons (ty_op (ty_cb (tya_cons (ty_var rfl) tya_nil) cbt_intI) (ty_var rfl) (opt_mod p)) tya_nil))) fun σ H g => ⟨(s.2, s.1 % s.2), ⟨by show 0 ≤ s.2; omega, m1, by show gI s.2 (s.1 % s.2) = _; rw [gI_mod]; exact I.2.2⟩, by show (s.1 % s.2).toNat < s.2.toNat; omega, g.1, EnvL.less (by exact ⟨fun _ _ _ _ h => h, fun _ _ _ _ h => h, True.intro⟩) g.2⟩
  · obtain ⟨s, h3, h4, h5⟩ := s
    have e : s.1 = gI a b := by rw [← h4, h5, gI_zero, if_neg (by omega)]
    exact congrArg PyData.int e
end
section
variable {P : Program} {w : World} {K : PySem.W.Frag} {mg : Str → Option Value} {base : Heap}
def sp_law_all_common (K : PySem.W.Frag) : Sp := spT (fun _ : List Int => True) (fun l => [dt K (linD l)]) (fun l => dt K (.int (gcdL l)))
theorem ok_law_all_common (T : Tx P K mg) : FnOk P w K mg base (L2.CX P w) 2 T.a_law_all_common T.f_law_all_common ["numbers"] (sp_law_all_common K) := by
  have G_law_common := ok_law_common (w := w) (base := base) T
  have nd := sc_law_all_common.nd
  refine fn_ty T.F_law_all_common sc_law_all_common (fun x _ => rfl) fun cdv Ar outer s H E hr => ⟨_, (pss_cons (pset 1 nd pe_int)
    (pss_cons (ps_for PassesOwn.never rfl (k_ilist (K := K) rfl (pv 0)) (pgn 2 nd) (pss_one (pset 1 nd (pcall G_law_common (hr.mono (by decide)) T.D_law_common (pa_cons (pv 1) (pa_cons (pv 2) pa_nil))))))
    (pss_one (ps_ret (pv 1))))), fun W x hC => ?_⟩
  refine tys_seqE (W' := W) (Γ' := [some (dt K (linD x)), some (dt K (.int 0)), none]) (tys_set ty_int) ?_
  refine tys_seqE (W' := W) (Γ' := [some (dt K (linD x)), some (dt K (.int (gcdL x))), none]) ?_ (TyS.never (tys_retW (ty_var rfl)))
  refine tys_for (Wi := fun _ (_ : Unit) => W) (Γi := fun i (_ : Unit) => [some (dt K (linD x)), some (dt K (.int (gcdL (x.take i)))), none]) () (tyi_lstA (xs := x) (f := PyData.int) (ty_var rfl)) (fun _ _ => Wd.Like.refl W) (fun σ H g => g) (fun i T' _ hT => ?_) (fun _ σ H g => by rw [List.length_map, List.take_length] at g; exact g)
  rw [List.getElem?_map] at hT
  cases hp : x[i]? with
  | none => rw [hp] at hT; cases hT
  | some p =>
    rw [hp] at hT
    cases hT
    refine ⟨_, tyg_name 2, ?_⟩
    rw [take_snoc hp, gcdL_snoc]
    exact TyS.imp (tys_set (ty_call (gcdL (x.take i), p) trivial (tya_cons (ty_var rfl) (tya_cons (ty_var rfl) tya_nil)))) fun σ H g => ⟨(), g.1, EnvL.less (by exact ⟨fun _ _ _ _ h => h, fun _ _ _ _ h => h, True.intro⟩) g.2⟩
end
section
variable {P : Program} {w : World} {K : PySem.W.Frag} {mg : Str → Option Value} {base : Heap}
def mulC (l : List Int) : Prop := l.length ≤ 10 ∧ ∀ n ∈ l, bd 400 n
def sp_law_multiple (K : PySem.W.Frag) : Sp := spT mulC (fun l => [dt K (linD l)]) (fun l => dt K (.int (lcmL l)))
theorem ok_law_multiple (T : Tx P K mg) : FnOk P w K mg base (L2.CX P w) 2 T.a_law_multiple T.f_law_multiple ["numbers"] (sp_law_multiple K) := by
  have G_law_common := ok_law_common (w := w) (base := base) T
  have nd := sc_law_multiple.nd
  refine fn_ty T.F_law_multiple sc_law_multiple (fun x _ => rfl) fun cdv Ar outer s H E hr => ⟨_, (pss_cons (pset 1 nd pe_int)
    (pss_cons (ps_for PassesOwn.never rfl (k_ilist (K := K) rfl (pv 0)) (pgn 2 nd) (pss_one (pset 1 nd (pe_ifExp (PW.pt (pw_or (pt_cmpR (k_eq (K := K) rfl hr.units) (pv 2) pe_int (nomark _)) (pw_or1 (pt_cmpR (k_eq (K := K) rfl hr.units) (pv 1) pe_int (nomark _))))) pe_int (pe_op op_divA (bi_abs T.m_abs (pa_cons (pe_op op_mulA (pv 1) (pv 2)) pa_nil)) (pcall G_law_common (hr.mono (by decide)) T.D_law_common (pa_cons (pv 1) (pa_cons (pv 2) pa_nil))))))))
    (pss_one (ps_ret (pv 1))))), fun W x hC => ?_⟩
  obtain ⟨ll, C3⟩ : x.length ≤ 10 ∧ ∀ n ∈ x, bd 400 n := hC
  refine tys_seqE (W' := W) (Γ' := [some (dt K (linD x)), some (dt K (.int 1)), none]) (tys_set ty_int) ?_
  refine tys_seqE (W' := W) (Γ' := [some (dt K (linD x)), some (dt K (.int (lcmL x))), none]) ?_ (TyS.never (tys_retW (ty_var rfl)))
  refine tys_for (Wi := fun _ (_ : Unit) => W) (Γi := fun i (_ : Unit) => [some (dt K (linD x)), some (dt K (.int (lcmL (x.take i)))), none]) () (tyi_lstA (xs := x) (f := PyData.int) (ty_var rfl)) (fun _ _ => Wd.Like.refl W) (fun σ H g => g) (fun i T' _ hT => ?_) (fun _ σ H g => by rw [List.length_map, List.take_length] at g; exact g)
  rw [List.getElem?_map] at hT
  cases hp : x[i]? with
  | none => rw [hp] at hT; cases hT
  | some n =>
    rw [hp] at hT
    cases hT
    have mn := List.mem_of_getElem? hp
    have bn := C3 n mn
    have bf : bd 4001 (lcmL (x.take i)) := (lcm_bd (x.take i) 1 1 (by show 1 < 2 ^ 1; decide) fun m hm => C3 m (List.mem_of_mem_take hm)).mono (by rw [List.length_take]; omega)
    refine ⟨_, tyg_name 2, ?_⟩
    rw [take_snoc hp, lcmL_snoc]
    generalize lcmL (x.take i) = f at bf
    refine TyS.imp (tys_set (T := dt K (.int (lcmS f n))) (ty_if (φ := (· = (decide (n = 0) || decide (f = 0)))) (tt_orB (tt_test (ty_op (ty_var rfl) ty_int opt_eqI)) fun _ => tt_test (ty_op (ty_var rfl) ty_int opt_eqI)) (fun z => ?_) fun z => ?_)) fun σ H g => ⟨(), g.1, EnvL.less (by exact ⟨fun _ _ _ _ h => h, fun _ _ _ _ h => h, True.intro⟩) g.2⟩
    · refine Ty.is ty_int (congrArg PyData.int ?_)
      unfold lcmS
      by_cases nz : n = 0
      · rw [if_pos nz]
      · have fz : f = 0 := by
          by_cases w : f = 0
          · exact w
          · rw [decide_eq_false nz, decide_eq_false w] at z; cases z
        rw [if_neg nz, if_neg (by rw [fz]; simp)]
    · have nz : n ≠ 0 := fun w => by rw [decide_eq_true w] at z; cases z
      have fz : f ≠ 0 := fun w => by rw [decide_eq_true w, Bool.or_true] at z; cases z
      exact Ty.is (ty_op (ty_cb (tya_cons (ty_op (ty_var rfl) (ty_var rfl) (opt_mulW (bf.mul_ok bn (by decide)))) tya_nil) cbt_abs) (ty_call (f, n) trivial (tya_cons (ty_var rfl) (tya_cons (ty_var rfl) tya_nil))) (opt_div (bd.div_ok (a := absI' (f * n)) (gcd_pos fz) (gcd_bd nz bn) (by decide)))) (by unfold lcmS absI'; rw [if_neg nz, if_pos fz]; rfl)
end
section
variable {P : Program} {w : World} {K : PySem.W.Frag} {mg : Str → Option Value} {base : Heap}
def sp_law_left (K : PySem.W.Frag) : Sp := spT (fun x : Int × Int => 0 ≤ x.2 ∧ sq x.1 ∧ sq x.2) (fun x => [dt K (.int x.1), dt K (.int x.2)]) (fun x => dt K (.int (wrapI x.1 x.2)))
theorem ok_law_left (T : Tx P K mg) : FnOk P w K mg base (L2.CX P w) 1 T.a_law_left T.f_law_left ["number", "modulus"] (sp_law_left K) := by
  have nd := sc_law_left.nd
  refine fn_ty T.F_law_left sc_law_left (fun x _ => rfl) fun cdv Ar outer s H E hr => ⟨_, (pss_one (ps_ret (pe_ifExp (pt_cmpR (k_eq (K := K) rfl hr.units) (pv 1) pe_int (nomark _)) (pv 0) (pe_op op_sub (pv 0) (pe_op op_mulA (pe_op op_divA (pv 0) (pv 1)) (pv 1)))))), fun W x hC => ?_⟩
  obtain ⟨n, m⟩ := x
  obtain ⟨h, s1, s2⟩ : 0 ≤ m ∧ sq n ∧ sq m := hC
  refine TyS.never (tys_retW (ty_if (φ := (· = decide (m = 0))) (tt_test (ty_op (ty_var rfl) ty_int opt_eqI)) (fun z => ?_) fun z => ?_))
  · have c := of_decide_eq_true z.symm
    exact Ty.is (ty_var rfl) (by show _ = PyData.int (wrapI n m); unfold wrapI; rw [if_pos c])
  · have c := of_decide_eq_false z.symm
    have p : 0 < m := by omega
    have e := Int.emod_add_mul_ediv n m
    rw [Int.mul_comm] at e
    exact Ty.is (ty_op (ty_var rfl) (ty_op (ty_op (ty_var rfl) (ty_var rfl) (opt_div (s2.div_ok p (by decide)))) (ty_var rfl) (opt_mulW ((s1.div p).mul_ok s2 (by decide)))) opt_sub) (by show _ = PyData.int (wrapI n m); unfold wrapI; rw [if_neg c]; exact congrArg PyData.int (by show n - n / m * m = n % m; omega))
end
section
variable {P : Program} {w : World} {K : PySem.W.Frag} {mg : Str → Option Value} {base : Heap}
/-- an unknown int, in bounds -/
def inT (K : PySem.W.Frag) (φ : Int → Prop) : Typ := exT fun i : Int => gd (φ i) (dt K (.int i))
def Mdl (m : Int) : Prop := 0 ≤ m ∧ m ≤ 10 ^ 31
section
variable {W : Wd} {Γ : Gam} {K : PySem.W.Frag} {ta tb : TE} {φ ψ χ : Int → Prop} {tl : TA}
theorem ty_addX (ha : Ty W Γ ta (inT K φ)) (hb : Ty W Γ tb (inT K ψ)) (h : ∀ i j, φ i → ψ j → χ (i + j)) : Ty W Γ (tOp (rAddA K) ta tb) (inT K χ) := ty_op ha hb fun u v H c ⟨i, hi, hu⟩ ⟨j, hj, hv⟩ Q q => opt_add u v H c hu hv Q fun w H1 e z => q w H1 e ⟨i + j, h i j hi hj, z⟩
theorem ty_subX (ha : Ty W Γ ta (inT K φ)) (hb : Ty W Γ tb (inT K ψ)) (h : ∀ i j, φ i → ψ j → χ (i - j)) : Ty W Γ (tOp (rI0 fun i j => .int (i - j)) ta tb) (inT K χ) := ty_op ha hb fun u v H c ⟨i, hi, hu⟩ ⟨j, hj, hv⟩ Q q => opt_sub u v H c hu hv Q fun w H1 e z => q w H1 e ⟨i - j, h i j hi hj, z⟩
theorem ty_mulX (ha : Ty W Γ ta (inT K φ)) (hb : Ty W Γ tb (inT K ψ)) (h : ∀ i j, φ i → ψ j → L2.CMul i j ∧ χ (i * j)) : Ty W Γ (tOp rMulA ta tb) (inT K χ) := ty_op ha hb fun u v H c ⟨i, hi, hu⟩ ⟨j, hj, hv⟩ Q q => opt_mul (h i j hi hj).1 u v H c hu hv Q fun w H1 e z => q w H1 e ⟨i * j, (h i j hi hj).2, z⟩
theorem ty_in {i : Int} (h : Ty W Γ ta (dt K (.int i))) (k : φ i) : Ty W Γ ta (inT K φ) := h.sub fun v H _ z => ⟨i, k, z⟩
theorem dig_in {n : Nat} (h : Ty W Γ ta (digT K n)) : Ty W Γ ta (inT K fun i => 0 ≤ i ∧ i < n) := h.sub fun v H _ ⟨k, hk, z⟩ => ⟨(k : Int), ⟨by omega, by omega⟩, z⟩
theorem in_sub (h : Ty W Γ ta (inT K φ)) (k : ∀ i, φ i → ψ i) : Ty W Γ ta (inT K ψ) := h.sub fun v H _ ⟨i, hi, z⟩ => ⟨i, k i hi, z⟩
theorem tt_eqX {j : Int} (ha : Ty W Γ ta (inT K φ)) (hb : Ty W Γ tb (dt K (.int j))) : Tt W Γ (tTest (tOp (rEqA K) ta tb)) (fun _ => True) := tt_testE (K := K) (φ := fun _ => True) (ty_op ha hb fun u v H c ⟨i, hi, hu⟩ hv Q q => opt_eqI u v H c hu hv Q fun w H1 e z => q w H1 e ⟨_, trivial, z⟩)
theorem tt_gtX {j : Int} (ha : Ty W Γ ta (inT K φ)) (hb : Ty W Γ tb (dt K (.int j))) : Tt W Γ (tTest (tOp (rI0 fun i j => .bl (decide (j < i))) ta tb)) (fun _ => True) := tt_testE (K := K) (φ := fun _ => True) (ty_op ha hb fun u v H c ⟨i, hi, hu⟩ hv Q q => opt_gt u v H c hu hv Q fun w H1 e z => q w H1 e ⟨_, trivial, z⟩)
theorem ty_eqX {j : Int} (ha : Ty W Γ ta (inT K φ)) (hb : Ty W Γ tb (dt K (.int j))) : Ty W Γ (tOp (rEqA K) ta tb) (exT fun b : Bool => dt K (.bool b)) := ty_op ha hb fun u v H c ⟨i, hi, hu⟩ hv Q q => opt_eqI u v H c hu hv Q fun w H1 e z => q w H1 e ⟨_, z⟩
/-- [.., ..][take] -/
theorem ty_pickX {T : Typ} {n : Nat} (h : TyA W Γ tl (List.replicate n T)) (hb : Ty W Γ tb (digT K n)) (hn : n ≤ 1000) : Ty W Γ (tOp (rIx K) (tLst tl) tb) T :=
  any_sub (Ts := List.replicate n T) (ty_pick (n := n) (tyl_lst h (by rw [List.length_replicate]; omega)).ty hb (by rw [List.length_replicate]; exact Nat.le_refl _)) fun k hk v H z => by rw [rep_getD (by simpa using hk)] at z; exact z
end
def sp_law_modulus (K : PySem.W.Frag) : Sp := spT (fun _ : Unit => True) (fun _ => [bx]) (fun _ => inT K Mdl)
theorem ok_law_modulus (T : Tx P K mg) : FnOk P w K mg base (L2.CX P w) 2 T.a_law_modulus T.f_law_modulus ["box"] (sp_law_modulus K) := by
  have G_law_take := ok_law_take (w := w) (base := base) T
  have nd := sc_law_modulus.nd
  refine fn_ty T.F_law_modulus sc_law_modulus (fun x _ => rfl) fun cdv Ar outer s H E hr => ⟨_, (pss_one (ps_ret (pe_ix (k_ix (K := K) rfl) (pe_lst (pa_cons pe_int (pa_cons pe_int (pa_cons pe_int (pa_cons pe_int (pa_cons pe_int (pa_cons pe_int (pa_cons pe_int (pa_cons pe_int (pa_cons pe_int (pa_cons pe_int (pa_cons (pe_op op_pow pe_int pe_int) (pa_cons (pe_op (k_add (K := K) rfl) (pe_op op_pow pe_int pe_int) pe_int) pa_nil))))))))))))) (pcall G_law_take (hr.mono (by decide)) T.D_law_take (pa_cons (pv 0) (pa_cons pe_int pa_nil))) (fun _ _ => rfl)))), fun W x hC => ?_⟩
  have dig : Ty W [some bx] (tCall (sp_law_take K) [] E0 (tCons (tVar 0) (tCons (tC (.int 12)) tNil))) (digT K 12) := ty_call 12 ⟨by decide, by decide⟩ (tya_cons (ty_var rfl) (tya_cons (Ty.is ty_int rfl) tya_nil))
  have one : ∀ (te : TE) (i : Int), Mdl i → Ty W [some bx] te (dt K (.int i)) → Ty W [some bx] te (inT K Mdl) := fun te i k h => ty_in h k
  refine TyS.never (tys_retW (ty_pickX (n := 12) (tya_cons (one _ 0 ⟨by decide, by decide⟩ ty_int) (tya_cons (one _ 1 ⟨by decide, by decide⟩ ty_int) (tya_cons (one _ 2 ⟨by decide, by decide⟩ ty_int) (tya_cons (one _ 3 ⟨by decide, by decide⟩ ty_int) (tya_cons (one _ 4 ⟨by decide, by decide⟩ ty_int) (tya_cons (one _ 6 ⟨by decide, by decide⟩ ty_int) (tya_cons (one _ 8 ⟨by decide, by decide⟩ ty_int) (tya_cons (one _ 12 ⟨by decide, by decide⟩ ty_int) (tya_cons (one _ 25 ⟨by decide, by decide⟩ ty_int) (tya_cons (one _ 97 ⟨by decide, by decide⟩ ty_int) (tya_cons (one _ _ ⟨by decide, by decide⟩ (ty_op ty_int ty_int (opt_pow ⟨by decide, by decide, by decide⟩))) (tya_cons (one _ _ ⟨by decide, by decide⟩ (ty_op (ty_op ty_int ty_int (opt_pow ⟨by decide, by decide, by decide⟩)) ty_int opt_add)) tya_nil)))))))))))) dig (by decide)))
end
section
variable {P : Program} {w : World} {K : PySem.W.Frag} {mg : Str → Option Value} {base : Heap}
def Intg (i : Int) : Prop := i.natAbs ≤ 2 ^ 132
def sp_law_integer (K : PySem.W.Frag) : Sp := spT (fun _ : Unit => True) (fun _ => [bx]) (fun _ => inT K Intg)
theorem ok_law_integer (T : Tx P K mg) : FnOk P w K mg base (L2.CX P w) 2 T.a_law_integer T.f_law_integer ["box"] (sp_law_integer K) := by
  have G_law_take := ok_law_take (w := w) (base := base) T
  have nd := sc_law_integer.nd
  refine fn_ty T.F_law_integer sc_law_integer (fun x _ => rfl) fun cdv Ar outer s H E hr => ⟨_, (pss_cons (pset 1 nd (pcall G_law_take (hr.mono (by decide)) T.D_law_take (pa_cons (pv 0) (pa_cons pe_int pa_nil))))
    (pss_cons (ps_if (pt_cmpR op_lt (pv 1) pe_int (nomark _)) (pss_one (ps_ret (pe_op op_sub (pcall G_law_take (hr.mono (by decide)) T.D_law_take (pa_cons (pv 0) (pa_cons pe_int pa_nil))) pe_int))) pss_nil)
    (pss_cons (ps_if (pt_cmpR (k_eq (K := K) rfl hr.units) (pv 1) pe_int (nomark _)) (pss_one (ps_ret (pe_ix (k_ix (K := K) rfl) (pe_lst (pa_cons pe_int (pa_cons pe_int (pa_cons (pe_un un_neg pe_int) (pa_cons (pe_op op_pow pe_int pe_int) (pa_cons (pe_op (k_add (K := K) rfl) (pe_op op_pow pe_int pe_int) pe_int) (pa_cons (pe_un un_neg (pe_op op_pow pe_int pe_int)) pa_nil))))))) (pcall G_law_take (hr.mono (by decide)) T.D_law_take (pa_cons (pv 0) (pa_cons pe_int pa_nil))) (fun _ _ => rfl)))) pss_nil)
    (pss_cons (pset 2 nd pe_int)
    (pss_cons (ps_for PassesOwn.never rfl (pi_range1 rfl T.m_range (pa_cons (pe_op (k_add (K := K) rfl) pe_int (pcall G_law_take (hr.mono (by decide)) T.D_law_take (pa_cons (pv 0) (pa_cons pe_int pa_nil)))) pa_nil)) (pgn 3 nd) (pss_one (pset 2 nd (pe_op op_mulA (pv 2) (pe_ix (k_ix (K := K) rfl) (pe_lst (pa_cons pe_int (pa_cons pe_int (pa_cons pe_int (pa_cons pe_int (pa_cons pe_int (pa_cons pe_int (pa_cons pe_int (pa_cons pe_int pa_nil))))))))) (pcall G_law_take (hr.mono (by decide)) T.D_law_take (pa_cons (pv 0) (pa_cons pe_int pa_nil))) (fun _ _ => rfl))))))
    (pss_one (ps_ret (pe_ifExp (pt_cmpR op_gt (pcall G_law_take (hr.mono (by decide)) T.D_law_take (pa_cons (pv 0) (pa_cons pe_int pa_nil))) pe_int (nomark _)) (pv 2) (pe_op op_sub pe_int (pv 2)))))))))), fun W x hC => ?_⟩
  have dig : ∀ (W' : Wd) (Γ : Gam) (n : Nat), Γ[0]? = some (some bx) → 0 < n → n ≤ 1000000 → Ty W' Γ (tCall (sp_law_take K) [] E0 (tCons (tVar 0) (tCons (tC (.int (n : Nat))) tNil))) (digT K n) := fun W' Γ n h h0 h1 => ty_call n ⟨h0, h1⟩ (tya_cons (ty_var h) (tya_cons ty_int tya_nil))
  have one : ∀ (Γ : Gam) (te : TE) (i : Int), Intg i → Ty W Γ te (dt K (.int i)) → Ty W Γ te (inT K Intg) := fun Γ te i k h => ty_in h k
  refine tys_seqE (tys_set (T := digT K 7) (dig _ _ 7 rfl (by decide) (by decide))) ?_
  refine TyS.openX (n := 1) rfl fun way => TyS.openG (n := 1) rfl fun hw => ?_
  show TyS W [some bx, some (dt K (.int (way : Nat))), none, none] _ _ _ _ _
  refine tys_guard (φ := fun _ => True) ((tt_test (ty_op (ty_var rfl) ty_int opt_lt)).sub fun _ _ => trivial) (fun _ => tys_retW (ty_subX (dig_in (dig _ _ 41 rfl (by decide) (by decide))) (ty_in (φ := fun i => i = 20) ty_int rfl) fun i j hi hj => by unfold Intg; omega)) fun _ => ?_
  refine tys_guard (φ := fun _ => True) ((tt_test (ty_op (ty_var rfl) ty_int opt_eqI)).sub fun _ _ => trivial) (fun _ => tys_retW (ty_pickX (n := 6) (tya_cons (one _ _ 0 (by unfold Intg; decide) ty_int) (tya_cons (one _ _ 1 (by unfold Intg; decide) ty_int) (tya_cons (one _ _ (-1) (by unfold Intg; decide) (ty_un ty_int unt_neg)) (tya_cons (one _ _ _ (by unfold Intg; decide +kernel) (ty_op ty_int ty_int (opt_pow ⟨by decide, by decide, by decide⟩))) (tya_cons (one _ _ _ (by unfold Intg; decide +kernel) (ty_op (ty_op ty_int ty_int (opt_pow ⟨by decide, by decide, by decide⟩)) ty_int opt_add)) (tya_cons (one _ _ _ (by unfold Intg; decide +kernel) (ty_un (ty_op ty_int ty_int (opt_pow ⟨by decide, by decide, by decide⟩)) unt_neg)) tya_nil)))))) (dig _ _ 6 rfl (by decide) (by decide)) (by decide))) fun _ => ?_
  refine tys_seqE (W' := W) (Γ' := [some bx, some (dt K (.int (way : Nat))), some (dt K (.int 1)), none]) (tys_set ty_int) ?_
  refine tys_seqE (W' := W) (Γ' := [some bx, some (dt K (.int (way : Nat))), some (inT K Intg), none]) ?_ (TyS.never (tys_retW (ty_if (φ := fun _ => True) (tt_gtX (dig_in (dig _ _ 3 rfl (by decide) (by decide))) ty_int) (fun _ => ty_var rfl) fun _ => ty_subX (ty_in (φ := fun i => i = 0) ty_int rfl) (ty_var rfl) fun i j hi hj => by unfold Intg at *; omega)))
  refine tys_rngX (φ := fun n => n ≤ 6) ((ty_addX (χ := fun i => 0 ≤ i ∧ i ≤ 6) (ty_in (φ := fun i => i = 1) ty_int rfl) (dig_in (dig _ _ 6 rfl (by decide) (by decide))) fun i j hi hj => by omega).sub fun v H _ ⟨i, hi, z⟩ => ⟨i.toNat, by omega, by rw [Int.toNat_of_nonneg hi.1]; exact z⟩) (fun n hn => by omega) fun n hn => ?_
  refine tys_for (Wi := fun _ (_ : Unit) => W) (Γi := fun i (_ : Unit) => [some bx, some (dt K (.int (way : Nat))), some (inT K fun m => m.natAbs ≤ 65537 ^ i), none]) () (tyi_itr (K := K)) (fun _ _ => Wd.Like.refl W) (fun σ H g => ⟨g.1, EnvL.less (by exact ⟨fun _ _ _ _ h => h, fun _ _ _ _ h => h, fun _ _ _ _ h => ⟨1, by decide, h⟩, True.intro⟩) g.2⟩) (fun i T' _ hT => ?_) (fun _ σ H g => ?_)
  · obtain ⟨hi, rfl⟩ := range_map_get hT
    refine ⟨_, tyg_name 3, ?_⟩
    show TyS W [some bx, some (dt K (.int (way : Nat))), some (inT K fun m => m.natAbs ≤ 65537 ^ i), some (dt K (.int (i : Nat)))] _ _ _ _ _
    have pk : ∀ (te : TE) (j : Int), 0 ≤ j ∧ j ≤ 65537 → Ty W [some bx, some (dt K (.int (way : Nat))), some (inT K fun m => m.natAbs ≤ 65537 ^ i), some (dt K (.int (i : Nat)))] te (dt K (.int j)) → Ty W [some bx, some (dt K (.int (way : Nat))), some (inT K fun m => m.natAbs ≤ 65537 ^ i), some (dt K (.int (i : Nat)))] te (inT K fun j => 0 ≤ j ∧ j ≤ 65537) := fun te j k h => ty_in h k
    refine TyS.imp (tys_set (T := inT K fun m => m.natAbs ≤ 65537 ^ (i + 1)) (ty_mulX (ty_var rfl) (ty_pickX (n := 8) (tya_cons (pk _ 2 (by decide) ty_int) (tya_cons (pk _ 3 (by decide) ty_int) (tya_cons (pk _ 5 (by decide) ty_int) (tya_cons (pk _ 7 (by decide) ty_int) (tya_cons (pk _ 11 (by decide) ty_int) (tya_cons (pk _ 101 (by decide) ty_int) (tya_cons (pk _ 997 (by decide) ty_int) (tya_cons (pk _ 65537 (by decide) ty_int) tya_nil)))))))) (dig _ _ 8 rfl (by decide) (by decide)) (by decide)) fun a b ha hb => ⟨.inr ⟨by omega, by omega⟩, by
      show (a * b).natAbs ≤ 65537 ^ (i + 1)
      rw [Int.natAbs_mul, Nat.pow_succ]
      exact Nat.mul_le_mul ha (by omega)⟩)) fun σ H g => ⟨(), g.1, EnvL.less (by exact ⟨fun _ _ _ _ h => h, fun _ _ _ _ h => h, fun _ _ _ _ h => h, True.intro⟩) g.2⟩
  · rw [List.length_map, List.length_range] at g
    have bnd : ∀ m : Int, m.natAbs ≤ 65537 ^ n → Intg m := fun m hm => by
      have e : 65537 ^ n ≤ 65537 ^ 6 := Nat.pow_le_pow_right (by decide) hn
      have e2 : (65537 : Nat) ^ 6 ≤ 2 ^ 132 := by decide
      unfold Intg
      omega
    exact ⟨g.1, EnvL.less (by exact ⟨fun _ _ _ _ h => h, fun _ _ _ _ h => h, fun _ _ _ _ h => (let ⟨m, hm, h⟩ := h; ⟨m, bnd m hm, h⟩), True.intro⟩) g.2⟩
end
section
variable {P : Program} {w : World} {K : PySem.W.Frag} {mg : Str → Option Value} {base : Heap}
/-- what is compared: no deeper than n, nothing too long, no dict -/
def smOk : Nat → PyData → Prop
  | 0, _ => False
  | n + 1, .list ds => ds.length ≤ 1000 ∧ ∀ e ∈ ds, smOk n e
  | n + 1, .tuple ds => ds.length ≤ 1000 ∧ ∀ e ∈ ds, smOk n e
  | _ + 1, .str x => x.length ≤ 1000
  | _ + 1, .dict _ => False
  | _ + 1, _ => True
def sr_law_same (K : PySem.W.Frag) (n : Nat) : Sp := spT (smOk n) (fun d => [dt K d, dt K d]) (fun _ => dt K (.bool true))
def sp_law_same (K : PySem.W.Frag) : Sp := sr_law_same K 8
theorem cutS_one {z : Str} {k c : Nat} (h : z.cps.toList[k]? = some c) : cutS z (some (k : Int)) (some ((k : Int) + 1)) = ⟨#[c]⟩ := by
  have hk : k < z.cps.toList.length := (List.getElem?_eq_some_iff.mp h).1
  have hl : z.cps.toList.length = z.length := rfl
  unfold cutS
  have e1 : HT.sIx z.length 0 (some (k : Int)) = k := by rw [HT.sIx_nat]; omega
  have e2 : HT.sIx z.length z.length (some ((k : Int) + 1)) = k + 1 := by
    have e3 : ((k : Int) + 1) = ((k + 1 : Nat) : Int) := rfl
    rw [e3, HT.sIx_nat]; omega
  rw [e1, e2]
  have e4 : k + 1 - k = 1 := by omega
  rw [e4, List.drop_eq_getElem_cons hk, List.take_succ_cons, List.take_zero]
  have e5 := (List.getElem?_eq_some_iff.mp h).2
  rw [e5]
theorem okr_law_same (T : Tx P K mg) : ∀ n : Nat, FnOk P w K mg base (L2.CX P w) (0 + n) T.a_law_same T.f_law_same ["told", "due"] (sr_law_same K n)
  | 0 => ⟨fun vs H Q E ⟨_, _, _, _, _, _, z, _⟩ => z.elim, fun A outer s H args us vs Q E _ _ _ _ ⟨_, _, _, _, _, _, z, _⟩ => z.elim⟩
  | n + 1 => by
    have G_law_same := okr_law_same T n
    have nd := sc_law_same.nd
    refine fn_ty T.F_law_same sc_law_same (fun x _ => rfl) fun cdv Ar outer s H E hr => ⟨_, (pss_cons (ps_if (PW.pt (pw_or (pt_cmpR op_isN (pv 1) pe_non (nomark _)) (pw_or1 (pt_val (k_isi (K := K) rfl T.m_isinstance (pa_cons (pv 1) (pa_cons (bt_bool T.m_bool) pa_nil))))))) (pss_one (ps_ret (pe_ifExp (pt_cmpR op_isN (pv 1) pe_non (nomark _)) (pe_cmpR op_isN (pv 0) pe_non (nomark _)) (pe_and (k_isi (K := K) rfl T.m_isinstance (pa_cons (pv 0) (pa_cons (bt_bool T.m_bool) pa_nil))) (pe_one (pe_cmpR (k_eq (K := K) rfl hr.units) (pe_cmpR op_isBl (pv 0) pe_bl (nomark _)) (pe_cmpR op_isBl (pv 1) pe_bl (nomark _)) (nomark _))))))) pss_nil)
    (pss_cons (ps_if (pt_val (k_isi (K := K) rfl T.m_isinstance (pa_cons (pv 1) (pa_cons (bt_int T.m_int) pa_nil)))) (pss_one (ps_ret (pe_and (k_isi (K := K) rfl T.m_isinstance (pa_cons (pv 0) (pa_cons (bt_int T.m_int) pa_nil))) (pe_and (pe_not (k_isi (K := K) rfl T.m_isinstance (pa_cons (pv 0) (pa_cons (bt_bool T.m_bool) pa_nil)))) (pe_one (pe_cmpR (k_eq (K := K) rfl hr.units) (pe_op op_sub (bi_int T.m_int (pa_cons (pv 0) pa_nil)) (pv 1)) pe_int (nomark _))))))) pss_nil)
    (pss_cons (ps_if (pt_val (k_isi (K := K) rfl T.m_isinstance (pa_cons (pv 1) (pa_cons (bt_str T.m_str) pa_nil)))) (pss_cons (pset 2 nd (pe_and (k_isi (K := K) rfl T.m_isinstance (pa_cons (pv 0) (pa_cons (bt_str T.m_str) pa_nil))) (pe_one (pe_cmpR (k_eq (K := K) rfl hr.units) (k_len (K := K) rfl T.m_len (pa_cons (pv 0) pa_nil)) (k_len (K := K) rfl T.m_len (pa_cons (pv 1) pa_nil)) (nomark _)))))
    (pss_one (ps_ret (pe_and (pv 2) (pe_one (pe_cmpR (k_eq (K := K) rfl hr.units) (plc [("k", 3)] nd (pi_range1 rfl T.m_range (pa_cons (k_len (K := K) rfl T.m_len (pa_cons (pv 1) pa_nil)) pa_nil)) (fun _ _ _ _ _ => (pgn 3 nd)) (fun _ _ _ _ _ => (pts_one (pt_cmpR (k_ne (K := K) rfl hr.units) (pe_slice (k_sl (K := K) rfl) (pv 0) (po_some (pv 3)) (po_some (pe_op (k_add (K := K) rfl) (pv 3) pe_int))) (pe_ix (k_ix (K := K) rfl) (pv 1) (pv 3) (fun _ _ => rfl)) (nomark _)))) (fun _ _ _ _ _ => (pv 3)) (by kernel_rfl)) (pe_lst pa_nil) (nomark _))))))) pss_nil)
    (pss_cons (ps_if (PW.pt (pw_or (pt_cmpR (k_ne (K := K) rfl hr.units) (k_isi (K := K) rfl T.m_isinstance (pa_cons (pv 0) (pa_cons (bt_list T.m_list) pa_nil))) (k_isi (K := K) rfl T.m_isinstance (pa_cons (pv 1) (pa_cons (bt_list T.m_list) pa_nil))) (nomark _)) (pw_or (pt_not (pt_val (k_isi2 (K := K) rfl T.m_isinstance (pa_cons (pv 0) (pa_cons (pe_tup (pa_cons (bt_list T.m_list) (pa_cons (bt_tuple T.m_tuple) pa_nil))) pa_nil))))) (pw_or1 (pt_cmpR (k_ne (K := K) rfl hr.units) (k_len (K := K) rfl T.m_len (pa_cons (pv 0) pa_nil)) (k_len (K := K) rfl T.m_len (pa_cons (pv 1) pa_nil)) (nomark _)))))) (pss_one (ps_ret pe_bl)) pss_nil)
    (pss_one (ps_ret (pe_cmpR (k_eq (K := K) rfl hr.units) (plc [("k", 3)] nd (pi_range1 rfl T.m_range (pa_cons (k_len (K := K) rfl T.m_len (pa_cons (pv 1) pa_nil)) pa_nil)) (fun _ _ _ _ _ => (pgn 3 nd)) (fun _ _ _ _ _ => (pts_one (pt_not (pt_val (pcall G_law_same hr T.D_law_same (pa_cons (pe_ix (k_ix (K := K) rfl) (pv 0) (pv 3) (fun _ _ => rfl)) (pa_cons (pe_ix (k_ix (K := K) rfl) (pv 1) (pv 3) (fun _ _ => rfl)) pa_nil))))))) (fun _ _ _ _ _ => (pv 3)) (by kernel_rfl)) (pe_lst pa_nil) (nomark _)))))))), fun W x hC => ?_⟩
    cases x with
    | none =>
      refine tys_guard (φ := (· = true)) (tt_orTr (by tm_at "ttis")) (fun _ => tys_retW (ty_if (φ := (· = true)) (by tm_at "ttis") (fun _ => by tm_at "tyis") fun z => Bool.noConfusion z)) (fun z => Bool.noConfusion z)
    | bool b =>
      refine tys_guard (φ := (· = true)) (by tm_at "ttis") (fun _ => tys_retW (ty_if (φ := (· = false)) (by tm_at "ttis") (fun z => Bool.noConfusion z) fun _ => ?_)) (fun z => Bool.noConfusion z)
      refine' Ty.is ?h1 ?h2
      case h1 => tm_at "ty"
      case h2 => cases b <;> rfl
    | int i =>
      refine tys_guard (φ := (· = false)) (by tm_at "ttis") (fun z => Bool.noConfusion z) (fun _ => tys_guard (φ := (· = true)) (by tm_at "ttis") (fun _ => tys_retW ?_) (fun z => Bool.noConfusion z))
      refine' Ty.is ?h1 ?h2
      case h1 => tm_at "ty"
      case h2 => simp [isD, tyD]
    | str z =>
      have hz : z.length ≤ 1000 := hC
      refine tys_guard (φ := (· = false)) (by tm_at "ttis") (fun z => Bool.noConfusion z) (fun _ => tys_guard (φ := (· = false)) (by tm_at "ttis") (fun z => Bool.noConfusion z) (fun _ => tys_guard (φ := (· = true)) (by tm_at "ttis") (fun _ => ?_) (fun z => Bool.noConfusion z)))
      refine tys_seqE (W' := W) (Γ' := [some (dt K (.str z)), some (dt K (.str z)), some (dt K (.bool true)), none]) (tys_set (Ty.is (ty_andV (a := true) (b := true) (by tm_at "tyis") fun _ => Ty.is (ty_op (ty_cb (tya_cons (ty_var rfl) tya_nil) (cbt_lenS (by omega))) (ty_cb (tya_cons (ty_var rfl) tya_nil) (cbt_lenS (by omega))) opt_eqI) (by simp)) rfl)) (tys_retW (Ty.is (ty_andV (a := true) (b := true) (ty_var rfl) fun _ => ty_op (ty_lstG (f := fun k : Nat => .int (k : Nat)) (xs := (List.range z.length).filter fun _ => false) ?_ |>.is ?_) (ty_lstD (ds := []) tya_nil (by decide)) opt_eqL0) rfl))
      · refine tyl_filter (fun k : Nat => dt K (.int (k : Nat))) (fun k : Nat => dt K (.int (k : Nat))) (fun _ => false) (tyi_rng (n := z.length) (tya_cons (ty_cb (tya_cons (ty_var rfl) tya_nil) (cbt_lenS (by omega))) tya_nil) (by omega)) (by rw [List.length_range]; omega) (by decide) fun W' k hk => ⟨?_, fun z => Bool.noConfusion z⟩
        have hk' : k < z.cps.toList.length := List.mem_range.mp hk
        have hc := List.getElem?_eq_getElem hk'
        exact Tt.is (tt_test (ty_op (ty_slS (by omega) (ty_var rfl) (tyo_some (ty_var rfl)) (tyo_some (ty_op (ty_var rfl) ty_int opt_add))) (ty_op (ty_var rfl) (ty_var rfl) (opt_ixS (by omega) (atI_nat hc))) opt_neS)) (by rw [cutS_one hc]; simp)
      · simp
    | list ds =>
      obtain ⟨h1, h2⟩ : ds.length ≤ 1000 ∧ ∀ e ∈ ds, smOk n e := hC
      refine tys_guard (φ := (· = false)) (by tm_at "ttis") (fun z => Bool.noConfusion z) (fun _ => tys_guard (φ := (· = false)) (by tm_at "ttis") (fun z => Bool.noConfusion z) (fun _ => tys_guard (φ := (· = false)) (by tm_at "ttis") (fun z => Bool.noConfusion z) fun _ => tys_guard (φ := (· = false)) ?_ (fun z => Bool.noConfusion z) fun _ => TyS.never (tys_retW (ty_op (ty_lstG (f := fun k : Nat => .int (k : Nat)) (xs := (List.range ds.length).filter fun _ => false) ?_ |>.is ?_) (ty_lstD (ds := []) tya_nil (by decide)) opt_eqL0))))
      · refine' Tt.is ?h1 ?h2
        case h1 => tm_at "tt"
        case h2 => simp [isD, tyD]
      · refine tyl_filter (fun k : Nat => dt K (.int (k : Nat))) (fun k : Nat => dt K (.int (k : Nat))) (fun _ => false) (tyi_rng (n := ds.length) (tya_cons (ty_cb (tya_cons (ty_var rfl) tya_nil) cbt_lenL) tya_nil) (by omega)) (by rw [List.length_range]; omega) (by decide) fun W' k hk => ⟨?_, fun z => Bool.noConfusion z⟩
        have hk' : k < ds.length := List.mem_range.mp hk
        have e := List.getElem?_eq_getElem hk'
        exact Tt.is (tt_notB (tt_B (ty_call (ds[k]) (h2 _ (List.getElem_mem hk')) (tya_cons (ty_op (ty_var rfl) (ty_var rfl) (opt_ixL (atI_nat e))) (tya_cons (ty_op (ty_var rfl) (ty_var rfl) (opt_ixL (atI_nat e))) tya_nil))))) rfl
      · simp
    | tuple ds =>
      obtain ⟨h1, h2⟩ : ds.length ≤ 1000 ∧ ∀ e ∈ ds, smOk n e := hC
      refine tys_guard (φ := (· = false)) (by tm_at "ttis") (fun z => Bool.noConfusion z) (fun _ => tys_guard (φ := (· = false)) (by tm_at "ttis") (fun z => Bool.noConfusion z) (fun _ => tys_guard (φ := (· = false)) (by tm_at "ttis") (fun z => Bool.noConfusion z) fun _ => tys_guard (φ := (· = false)) ?_ (fun z => Bool.noConfusion z) fun _ => TyS.never (tys_retW (ty_op (ty_lstG (f := fun k : Nat => .int (k : Nat)) (xs := (List.range ds.length).filter fun _ => false) ?_ |>.is ?_) (ty_lstD (ds := []) tya_nil (by decide)) opt_eqL0))))
      · refine' Tt.is ?h1 ?h2
        case h1 => tm_at "tt"
        case h2 => simp [isD, tyD]
      · refine tyl_filter (fun k : Nat => dt K (.int (k : Nat))) (fun k : Nat => dt K (.int (k : Nat))) (fun _ => false) (tyi_rng (n := ds.length) (tya_cons (ty_cb (tya_cons (ty_var rfl) tya_nil) cbt_lenT) tya_nil) (by omega)) (by rw [List.length_range]; omega) (by decide) fun W' k hk => ⟨?_, fun z => Bool.noConfusion z⟩
        have hk' : k < ds.length := List.mem_range.mp hk
        have e := List.getElem?_eq_getElem hk'
        exact Tt.is (tt_notB (tt_B (ty_call (ds[k]) (h2 _ (List.getElem_mem hk')) (tya_cons (ty_op (ty_var rfl) (ty_var rfl) (opt_ixT (atI_nat e))) (tya_cons (ty_op (ty_var rfl) (ty_var rfl) (opt_ixT (atI_nat e))) tya_nil))))) rfl
      · simp
    | dict kvs => exact (show False from hC).elim
theorem ok_law_same (T : Tx P K mg) : FnOk P w K mg base (L2.CX P w) 8 T.a_law_same T.f_law_same ["told", "due"] (sp_law_same K) := okr_law_same T 8
end
section
variable {P : Program} {w : World} {K : PySem.W.Frag} {mg : Str → Option Value} {base : Heap}
/-- as smOk; a dict of one text and an int may be -/
def stOk : Nat → PyData → Prop
  | 0, _ => False
  | n + 1, .list ds => ds.length ≤ 1000 ∧ ∀ e ∈ ds, stOk n e
  | n + 1, .tuple ds => ds.length ≤ 1000 ∧ ∀ e ∈ ds, stOk n e
  | _ + 1, .str x => x.length ≤ 1000
  | n + 1, .dict kvs => 0 < n ∧ ∃ (x : Str) (i : Int), kvs = [(.str x, .int i)]
  | _ + 1, _ => True
def sr_law_still (K : PySem.W.Frag) (n : Nat) : Sp := spT (stOk n) (fun d => [dt K d, dt K d]) (fun _ => dt K (.bool true))
def sp_law_still (K : PySem.W.Frag) : Sp := sr_law_still K 4
theorem RpK1 {M : Addr → Prop} {K : PySem.W.Frag} {H : Hp} {kvs : List (Key × V)} {l : List (PyData × PyData)} {x : Str} {i : Int} (h : RpK M K H kvs l) (e : l = [(.str x, .int i)]) : kvs = [(.inr x, .int i)] := by
  cases h with
  | nil => cases e
  | @cons k v vs d ds h r =>
    injection e with e1 e2
    subst e2
    cases r
    injection e1 with e3 e4
    subst e4
    cases h
    cases k with
    | inl z => cases e3
    | inr z => cases e3; rfl
/-- a walk over the keys of a dict of one entry, where the test is false -/
theorem ty_keys1 {W : Wd} {Γ : Gam} {K : PySem.W.Frag} {x : Str} {i : Int} {n : Nat} (hn : 0 < n) (hΓ : Γ = [some (dt K (.dict [(.str x, .int i)])), some (dt K (.dict [(.str x, .int i)])), none, none]) : Ty W Γ (tLockE (tLc (iKeys (tVar 1)) (gName 2) (tOr (tB (tDNotIn (tVar 2) (tVar 0))) (tNot (tB (tCall (sr_law_still K n) [] E0 (tCons (tDGet (tVar 0) (tVar 2)) (tCons (tDGet (tVar 1) (tVar 2)) tNil)))))) (tVar 2) [2])) (dt K (.list [])) := fun σ H c g Q q => by
  subst hΓ
  match σ, g with
  | [some u, some v, s2, s3], g =>
    obtain ⟨g1, g2, _⟩ := g
    cases g1 with
    | @dic d0 kvs0 _ e0 r0 =>
    cases g2 with
    | @dic d kvs _ e1 r1 =>
    obtain rfl := RpK1 r0 rfl
    obtain rfl := RpK1 r1 rfl
    refine ⟨d, .dK [(.inr x, .int i)], e1, trivial, fun od => ⟨.ref d, rfl, d, od, rfl, .inl ⟨[(.inr x, .int i)], upd_same, fun D hD => ?_⟩⟩⟩
    have hd1 : upd H d (.frz od (.dK [(.inr x, .int i)])) d = some (.frz od (.dK [(.inr x, .int i)])) := upd_same
    have nD : d ≠ D := ne_of_none hd1 hD
    have HD : H D = none := by rw [upd_ne (Ne.symm nD)] at hD; exact hD
    have fz : ∀ {H2 : Hp}, Ex (fun _ => False) (upd (upd H d (.frz od (.dK [(.inr x, .int i)]))) D (.lst [])) H2 → H2 d = some (.frz od (.dK [(.inr x, .int i)])) := fun {H2} h => h.keep (by rw [upd_ne nD]; exact hd1) id
    have rd : ∀ {H2 : Hp} {b : Addr}, H b = some (.dK [(.inr x, .int i)]) → Ex (fun _ => False) (upd (upd H d (.frz od (.dK [(.inr x, .int i)]))) D (.lst [])) H2 → DGet H2 b (.str x) (some (.int i)) := fun {H2 b} hb h => by
      refine .inl ⟨[(.inr x, .int i)], .inr x, ?_, rfl, (valV_pos (p := ((Sum.inr x : Key), V.int i)) (r := []) (k := Sum.inr x) rfl).symm⟩
      by_cases eb : b = d
      · subst eb
        exact .inr ⟨od, fz h⟩
      · exact .inl (h.keep (by rw [upd_ne (ne_of_none hb HD), upd_ne eb]; exact hb) id)
    refine lc_it walk_keys (fun _ H2 => Ex (fun _ => False) (upd (upd H d (.frz od (.dK [(.inr x, .int i)]))) D (.lst [])) H2) (Ex.refl _ _) (fun _ H2 _ h => fz h) ?_ ?_
    · rintro j xv H2 H3 hj h2 ⟨rfl, k, v', hk, rfl⟩
      obtain rfl : j = 0 := by simpa using hj
      obtain ⟨rfl, rfl⟩ : Sum.inr x = k ∧ V.int i = v' := by simpa using hk
      refine ⟨rfl, ?_⟩
      refine ⟨.str x, rfl, .ref d0, rfl, d0, some (.int i), rfl, rd e0 h2, false, rfl, ?_⟩
      dsimp only
      rw [if_neg Bool.false_ne_true]
      refine ⟨.ref d0, rfl, .str x, rfl, d0, .int i, rfl, rd e0 h2, .ref d, rfl, .str x, rfl, d, .int i, rfl, rd e1 h2, ?_⟩
      refine ⟨fun _ => False, fun _ => False, .int i, fun _ z => z, fun _ z => z.elim, fun _ z => z.elim, ?_, ⟨.int i, .int i, True.intro⟩, fun v H' e hv => ?_⟩
      · cases n with
        | zero => exact absurd hn (Nat.lt_irrefl _)
        | succ m => exact True.intro
      · cases hv
        exact ⟨true, rfl, by dsimp only; rw [if_neg (by decide)]; exact h2.trans e⟩
    · intro H2 h
      refine ⟨fz h, q _ _ (fun a o ha => .inl ?_) (.lst (xs := []) ?_ (c.nm HD) .nil)⟩
      · by_cases ea : a = d
        · subst ea
          rw [e1] at ha
          cases ha
          exact upd_same
        · rw [upd_ne ea]
          exact h.keep (by rw [upd_ne (ne_of_none ha HD), upd_ne ea]; exact ha) id
      · rw [upd_ne (Ne.symm nD)]
        exact h.keep upd_same id
theorem okr_law_still (T : Tx P K mg) : ∀ n : Nat, FnOk P w K mg base (L2.CX P w) (8 + n) T.a_law_still T.f_law_still ["told", "due"] (sr_law_still K n)
  | 0 => ⟨fun vs H Q E ⟨_, _, _, _, _, _, z, _⟩ => z.elim, fun A outer s H args us vs Q E _ _ _ _ ⟨_, _, _, _, _, _, z, _⟩ => z.elim⟩
  | n + 1 => by
    have G_law_still := okr_law_still T n
    have G_law_same := ok_law_same (w := w) (base := base) T
    have nd := sc_law_still.nd
    refine fn_ty T.F_law_still sc_law_still (fun x _ => rfl) fun cdv Ar outer s H E hr => ⟨_, (pss_cons (ps_if (pt_val (k_isi (K := K) rfl T.m_isinstance (pa_cons (pv 1) (pa_cons (bt_dict T.m_dict) pa_nil)))) (pss_cons (ps_if (PW.pt (pw_or (pt_not (pt_val (k_isi (K := K) rfl T.m_isinstance (pa_cons (pv 0) (pa_cons (bt_dict T.m_dict) pa_nil))))) (pw_or1 (pt_cmpR (k_ne (K := K) rfl hr.units) (k_lenA (K := K) rfl T.m_len (pa_cons (pv 0) pa_nil)) (k_lenA (K := K) rfl T.m_len (pa_cons (pv 1) pa_nil)) (nomark _))))) (pss_one (ps_ret pe_bl)) pss_nil)
    (pss_one (ps_ret (pe_cmpR (k_eq (K := K) rfl hr.units) (pe_lock (plc [("key", 2)] nd (pi_keys (pv 1)) (fun _ _ _ _ _ => (pgn 2 nd)) (fun _ _ _ _ _ => (pts_one (PW.pt (pw_or (pt_cmp (pc_dnotin (hu1 hr.units) (pv 2) (pv 0)) rfl) (pw_or1 (pt_not (pt_val (pcall G_law_still hr T.D_law_still (pa_cons (pe_dget (hu1 hr.units) (pv 0) (pv 2) (fun _ _ => rfl)) (pa_cons (pe_dget (hu1 hr.units) (pv 1) (pv 2) (fun _ _ => rfl)) pa_nil)))))))))) (fun _ _ _ _ _ => (pv 2)) (by kernel_rfl))) (pe_lst pa_nil) (nomark _))))) pss_nil)
    (pss_cons (ps_if (pt_val (k_isi2 (K := K) rfl T.m_isinstance (pa_cons (pv 1) (pa_cons (pe_tup (pa_cons (bt_list T.m_list) (pa_cons (bt_tuple T.m_tuple) pa_nil))) pa_nil)))) (pss_cons (ps_if (PW.pt (pw_or (pt_cmpR (k_ne (K := K) rfl hr.units) (k_isi (K := K) rfl T.m_isinstance (pa_cons (pv 0) (pa_cons (bt_list T.m_list) pa_nil))) (k_isi (K := K) rfl T.m_isinstance (pa_cons (pv 1) (pa_cons (bt_list T.m_list) pa_nil))) (nomark _)) (pw_or (pt_cmpR (k_ne (K := K) rfl hr.units) (k_isi (K := K) rfl T.m_isinstance (pa_cons (pv 0) (pa_cons (bt_tuple T.m_tuple) pa_nil))) (k_isi (K := K) rfl T.m_isinstance (pa_cons (pv 1) (pa_cons (bt_tuple T.m_tuple) pa_nil))) (nomark _)) (pw_or1 (pt_cmpR (k_ne (K := K) rfl hr.units) (k_lenA (K := K) rfl T.m_len (pa_cons (pv 0) pa_nil)) (k_lenA (K := K) rfl T.m_len (pa_cons (pv 1) pa_nil)) (nomark _)))))) (pss_one (ps_ret pe_bl)) pss_nil)
    (pss_one (ps_ret (pe_cmpR (k_eq (K := K) rfl hr.units) (plc [("k", 3)] nd (pi_range1 rfl T.m_range (pa_cons (k_lenA (K := K) rfl T.m_len (pa_cons (pv 1) pa_nil)) pa_nil)) (fun _ _ _ _ _ => (pgn 3 nd)) (fun _ _ _ _ _ => (pts_one (pt_not (pt_val (pcall G_law_still hr T.D_law_still (pa_cons (pe_ix (k_ix (K := K) rfl) (pv 0) (pv 3) (fun _ _ => rfl)) (pa_cons (pe_ix (k_ix (K := K) rfl) (pv 1) (pv 3) (fun _ _ => rfl)) pa_nil))))))) (fun _ _ _ _ _ => (pv 3)) (by kernel_rfl)) (pe_lst pa_nil) (nomark _))))) pss_nil)
    (pss_one (ps_ret (pcall G_law_same (hr.mono (Nat.le_add_right _ _)) T.D_law_same (pa_cons (pv 0) (pa_cons (pv 1) pa_nil))))))), fun W x hC => ?_⟩
    cases x with
    | dict kvs =>
      obtain ⟨hn, x, i, rfl⟩ : 0 < n ∧ ∃ (x : Str) (i : Int), kvs = [(.str x, .int i)] := hC
      refine tys_guard (φ := (· = true)) (by tm_at "ttis") (fun _ => ?_) fun z => Bool.noConfusion z
      refine tys_guard (φ := (· = false)) (Tt.is (tt_orB (a := false) (by tm_at "ttis") fun _ => tt_test (ty_op (ty_cb (tya_cons (ty_var rfl) tya_nil) cbt_lenDict) (ty_cb (tya_cons (ty_var rfl) tya_nil) cbt_lenDict) opt_neI)) (by simp)) (fun z => Bool.noConfusion z) fun _ => TyS.never (tys_retW (ty_op (ty_keys1 hn rfl) (ty_lstD (ds := []) tya_nil (by decide)) opt_eqL0))
    | list ds =>
      obtain ⟨h1, h2⟩ : ds.length ≤ 1000 ∧ ∀ e ∈ ds, stOk n e := hC
      refine tys_guard (φ := (· = false)) (by tm_at "ttis") (fun z => Bool.noConfusion z) fun _ => tys_guard (φ := (· = true)) (by tm_at "ttis") (fun _ => ?_) fun z => Bool.noConfusion z
      refine tys_guard (φ := (· = false)) ?_ (fun z => Bool.noConfusion z) fun _ => TyS.never (tys_retW (ty_op (ty_lstG (f := fun k : Nat => .int (k : Nat)) (xs := (List.range ds.length).filter fun _ => false) ?_ |>.is ?_) (ty_lstD (ds := []) tya_nil (by decide)) opt_eqL0))
      · exact Tt.is (tt_orB (a := false) (by tm_at "ttis") fun _ => tt_orB (a := false) (by tm_at "ttis") fun _ => tt_test (ty_op (ty_cb (tya_cons (ty_var rfl) tya_nil) (cbt_lenA cbt_lenL)) (ty_cb (tya_cons (ty_var rfl) tya_nil) (cbt_lenA cbt_lenL)) opt_neI)) (by simp)
      · refine tyl_filter (fun k : Nat => dt K (.int (k : Nat))) (fun k : Nat => dt K (.int (k : Nat))) (fun _ => false) (tyi_rng (n := ds.length) (tya_cons (ty_cb (tya_cons (ty_var rfl) tya_nil) (cbt_lenA cbt_lenL)) tya_nil) (by omega)) (by rw [List.length_range]; omega) (by decide) fun W' k hk => ⟨?_, fun z => Bool.noConfusion z⟩
        have hk' : k < ds.length := List.mem_range.mp hk
        have e := List.getElem?_eq_getElem hk'
        exact Tt.is (tt_notB (tt_B (ty_call (ds[k]) (h2 _ (List.getElem_mem hk')) (tya_cons (ty_op (ty_var rfl) (ty_var rfl) (opt_ixL (atI_nat e))) (tya_cons (ty_op (ty_var rfl) (ty_var rfl) (opt_ixL (atI_nat e))) tya_nil))))) rfl
      · simp
    | tuple ds =>
      obtain ⟨h1, h2⟩ : ds.length ≤ 1000 ∧ ∀ e ∈ ds, stOk n e := hC
      refine tys_guard (φ := (· = false)) (by tm_at "ttis") (fun z => Bool.noConfusion z) fun _ => tys_guard (φ := (· = true)) (by tm_at "ttis") (fun _ => ?_) fun z => Bool.noConfusion z
      refine tys_guard (φ := (· = false)) ?_ (fun z => Bool.noConfusion z) fun _ => TyS.never (tys_retW (ty_op (ty_lstG (f := fun k : Nat => .int (k : Nat)) (xs := (List.range ds.length).filter fun _ => false) ?_ |>.is ?_) (ty_lstD (ds := []) tya_nil (by decide)) opt_eqL0))
      · exact Tt.is (tt_orB (a := false) (by tm_at "ttis") fun _ => tt_orB (a := false) (by tm_at "ttis") fun _ => tt_test (ty_op (ty_cb (tya_cons (ty_var rfl) tya_nil) (cbt_lenA cbt_lenT)) (ty_cb (tya_cons (ty_var rfl) tya_nil) (cbt_lenA cbt_lenT)) opt_neI)) (by simp)
      · refine tyl_filter (fun k : Nat => dt K (.int (k : Nat))) (fun k : Nat => dt K (.int (k : Nat))) (fun _ => false) (tyi_rng (n := ds.length) (tya_cons (ty_cb (tya_cons (ty_var rfl) tya_nil) (cbt_lenA cbt_lenT)) tya_nil) (by omega)) (by rw [List.length_range]; omega) (by decide) fun W' k hk => ⟨?_, fun z => Bool.noConfusion z⟩
        have hk' : k < ds.length := List.mem_range.mp hk
        have e := List.getElem?_eq_getElem hk'
        exact Tt.is (tt_notB (tt_B (ty_call (ds[k]) (h2 _ (List.getElem_mem hk')) (tya_cons (ty_op (ty_var rfl) (ty_var rfl) (opt_ixT (atI_nat e))) (tya_cons (ty_op (ty_var rfl) (ty_var rfl) (opt_ixT (atI_nat e))) tya_nil))))) rfl
      · simp
    | _ => exact tys_guard (φ := (· = false)) (by tm_at "ttis") (fun z => Bool.noConfusion z) fun _ => tys_guard (φ := (· = false)) (by tm_at "ttis") (fun z => Bool.noConfusion z) fun _ => TyS.never (tys_retW (ty_call _ (by first | exact trivial | exact (show smOk 8 (.str _) from hC)) (tya_cons (ty_var rfl) (tya_cons (ty_var rfl) tya_nil))))
theorem ok_law_still (T : Tx P K mg) : FnOk P w K mg base (L2.CX P w) 12 T.a_law_still T.f_law_still ["told", "due"] (sp_law_still K) := okr_law_still T 4
end
section
variable {P : Program} {w : World} {K : PySem.W.Frag} {mg : Str → Option Value} {base : Heap}
def outc (b : Option (Cls × PyData)) (v : PyData) : Str × PyData := match b with
  | none => ("told", v)
  | some p => (p.1.tag, p.2)
/-- what a call tells -/
inductive CallOk : Str → List PyData → Str → PyData → Prop
  | rest (d e : PyData) (tag : Str) (val : PyData) (h : outc (bRest d e) (.int (wrapI (wI d) (wI e))) = (tag, val)) : CallOk "rest" [d, e] tag val
  | same (a b e : PyData) (tag : Str) (val : PyData) (h : outc (bTwo a b (bMod e)) (.bool (divI (wI e) (wI a - wI b))) = (tag, val)) : CallOk "same" [a, b, e] tag val
  | common (d : PyData) (tag : Str) (val : PyData) (c : (itemsD d).length ≤ 1000) (h : outc (bNums d) (.int (gcdL (nsD d))) = (tag, val)) : CallOk "common" [d] tag val
  | multiple (d : PyData) (tag : Str) (val : PyData) (c : lcmC d) (h : outc (bNums d) (.int (lcmL (nsD d))) = (tag, val)) : CallOk "multiple" [d] tag val
  | bezout (a b : PyData) (tag : Str) (val : PyData) (c : bezC (a, b)) (h : outc (bTwo a b none) (intsD (shI (wI a) (wI b))) = (tag, val)) : CallOk "bezout" [a, b] tag val
  | inverse (a b : PyData) (tag : Str) (val : PyData) (c : bezC (a, b)) (h : outc (bInv a b) (invD (wI a) (wI b)) = (tag, val)) : CallOk "inverse" [a, b] tag val
  | primes (d : PyData) (tag : Str) (val : PyData) (h : outc (bPrimes d) (facD d) = (tag, val)) : CallOk "primes" [d] tag val
  | valuation (a b : PyData) (tag : Str) (val : PyData) (c : valC (a, b)) (h : outc (bVal a b) (valD a b) = (tag, val)) : CallOk "valuation" [a, b] tag val
structure CallX where
  which : Str
  a : List PyData
  nm : Bool
  tag : Str
  val : PyData
def sp_law_call (K : PySem.W.Frag) : Sp := spT (fun x : CallX => CallOk x.which x.a x.tag x.val) (fun x => [dt K (.str x.which), dt K (.list x.a), dt K (.bool x.nm)]) (fun x => dt K (.list [.str x.tag, x.val]))
theorem told_list {W : Wd} {Γ : Gam} {K : PySem.W.Frag} {te : TE} {tag : Str} {val : PyData} (h : Ty W Γ te (gd (tag = "told") (dt K val))) : Ty W Γ (tLst (tCons (tC (.str "told")) (tCons te tNil))) (dt K (.list [.str tag, val])) := (tyl_lst (tya_cons (ty_str (K := K)) (tya_cons h tya_nil)) (by show 2 ≤ 1000000; decide)).ty.sub fun v H _ z => by
  obtain ⟨p, xs, rfl, h0, h1, h2⟩ := z
  match xs, h2 with
  | [a, b], ⟨h3, h4, _⟩ =>
    obtain ⟨rfl, h5⟩ := h4
    exact .lst h1 h0 (.cons h3 (.cons h5 .nil))
theorem tys_out {P : Program} {K : PySem.W.Frag} {mg : Str → Option Value} {T : Tx P K mg} {W : Wd} {Γ : Gam} {Wx : WX} {α : Type} {C : α → Prop} {A : α → List Typ} {v : α → PyData} {b : α → Option (Cls × PyData)} {tt : TT} {ta tk : TA} {gV : List V → List V} {Us : List Typ} {nm : Bool} {tag : Str} {val : PyData} {Bk Ct : Sx → Hp → Prop}
    (x : α) (hC : C x) (hn : Tt W Γ tt (· = nm)) (ha : TyA W Γ ta (A x)) (hk : TyA W Γ tk Us) (hg : ∀ {vs H}, TysV W.M W.B Us vs H → TysV W.M W.B (A x) (gV vs) H) (ho : outc (b x) (v x) = (tag, val)) (er : ∀ c : Cls, tag = c.tag → ErX W Γ Wx ⟨T.cls c, flG, dt K val⟩) :
    TyS W Γ (tRet (tLst (tCons (tC (.str "told")) (tCons (tIf tt (tCallS (spX C A (fun x => rT (dt K (v x))) (fun x => badO T (b x))) (WE Wx) ta) (tCallKS (spX C A (fun x => rT (dt K (v x))) (fun x => badO T (b x))) gV (WE Wx) tk)) tNil)))) noN (rW W (dt K (.list [.str tag, val]))) Bk Ct := by
  have hb : ∀ bb, badO T (b x) = some bb → ErX W Γ Wx bb := fun bb h => by
    cases hx : b x with
    | none => rw [hx] at h; cases h
    | some p =>
      rw [hx] at h ho
      cases h
      obtain ⟨rfl, rfl⟩ : p.1.tag = tag ∧ p.2 = val := ⟨congrArg Prod.fst ho, congrArg Prod.snd ho⟩
      exact er p.1 rfl
  refine tys_retW (told_list ((tyr_if hn (fun _ => tyr_callX x hC ha hb) fun _ => tyr_callKX x hC hk hg hb).ty fun H0 u H c _ z => ?_))
  obtain ⟨z1, z2⟩ := z
  have e := badO_none z1
  rw [e] at ho
  obtain ⟨rfl, rfl⟩ : ("told" : Str) = tag ∧ v x = val := ⟨congrArg Prod.fst ho, congrArg Prod.snd ho⟩
  exact ⟨rfl, z2⟩
theorem tysv_rev3 {M B : Addr → Prop} {T U S : Typ} {vs : List V} {H : Hp} (h : TysV M B [T, U, S] vs H) : TysV M B [S, U, T] vs.reverse H := by
  match vs, h with
  | [a, b, c], h => exact ⟨h.2.2.1, h.2.1, h.1, True.intro⟩
theorem ok_law_call (T : Tx P K mg) : FnOk P w K mg base (L2.CX P w) 8 T.a_law_call T.f_law_call ["which", "a", "named"] (sp_law_call K) := by
  have G_valuation := ok_valuation (w := w) (base := base) T
  have G_rest := ok_rest (w := w) (base := base) T
  have G_same := ok_same (w := w) (base := base) T
  have G_common := ok_common (w := w) (base := base) T
  have G_least_multiple := ok_least_multiple (w := w) (base := base) T
  have G_bezout := ok_bezout (w := w) (base := base) T
  have G_inverse := ok_inverse (w := w) (base := base) T
  have G_primes_in := ok_primes_in (w := w) (base := base) T
  have nd := sc_law_call.nd
  refine fn_ty T.F_law_call sc_law_call (fun x _ => rfl) fun cdv Ar outer s H E hr => ⟨_, (pss_one (k_try (K := K) rfl rfl rfl nd takes0 (fun _ pn xe tk _ => (pss_cons (ps_if (pt_cmpR (k_eq (K := K) rfl hr.units) (pv 0) pe_str (nomark _)) (pss_one (ps_ret (pe_lst (pa_cons pe_str (pa_cons (pe_ifExp (pt_val (pv 2)) (pe_callS G_rest (hr.mono (by decide)) rfl T.D_rest.g T.D_rest.k T.D_rest.b (fun σ => passAt tk σ) (pa_cons (pe_ix (k_ix (K := K) rfl) (pv 1) pe_int (fun _ _ => rfl)) (pa_cons (pe_ix (k_ix (K := K) rfl) (pv 1) pe_int (fun _ _ => rfl)) pa_nil))) (pe_callKS G_rest (hr.mono (by decide)) rfl T.D_rest.g T.D_rest.k T.B_rest (fun σ => passAt tk σ) (pk_cons (pe_ix (k_ix (K := K) rfl) (pv 1) pe_int (fun _ _ => rfl)) (pk_cons (pe_ix (k_ix (K := K) rfl) (pv 1) pe_int (fun _ _ => rfl)) pk_nil)))) pa_nil))))) pss_nil)
    (pss_cons (ps_if (pt_cmpR (k_eq (K := K) rfl hr.units) (pv 0) pe_str (nomark _)) (pss_one (ps_ret (pe_lst (pa_cons pe_str (pa_cons (pe_ifExp (pt_val (pv 2)) (pe_callS G_same (hr.mono (by decide)) rfl T.D_same.g T.D_same.k T.D_same.b (fun σ => passAt tk σ) (pa_cons (pe_ix (k_ix (K := K) rfl) (pv 1) pe_int (fun _ _ => rfl)) (pa_cons (pe_ix (k_ix (K := K) rfl) (pv 1) pe_int (fun _ _ => rfl)) (pa_cons (pe_ix (k_ix (K := K) rfl) (pv 1) pe_int (fun _ _ => rfl)) pa_nil)))) (pe_callKS G_same (hr.mono (by decide)) rfl T.D_same.g T.D_same.k T.B_same (fun σ => passAt tk σ) (pk_cons (pe_ix (k_ix (K := K) rfl) (pv 1) pe_int (fun _ _ => rfl)) (pk_cons (pe_ix (k_ix (K := K) rfl) (pv 1) pe_int (fun _ _ => rfl)) (pk_cons (pe_ix (k_ix (K := K) rfl) (pv 1) pe_int (fun _ _ => rfl)) pk_nil))))) pa_nil))))) pss_nil)
    (pss_cons (ps_if (pt_cmpR (k_eq (K := K) rfl hr.units) (pv 0) pe_str (nomark _)) (pss_one (ps_ret (pe_lst (pa_cons pe_str (pa_cons (pe_ifExp (pt_val (pv 2)) (pe_callS G_common (hr.mono (by decide)) rfl T.D_common.g T.D_common.k T.D_common.b (fun σ => passAt tk σ) (pa_cons (pe_ix (k_ix (K := K) rfl) (pv 1) pe_int (fun _ _ => rfl)) pa_nil)) (pe_callKS G_common (hr.mono (by decide)) rfl T.D_common.g T.D_common.k T.B_common (fun σ => passAt tk σ) (pk_cons (pe_ix (k_ix (K := K) rfl) (pv 1) pe_int (fun _ _ => rfl)) pk_nil))) pa_nil))))) pss_nil)
    (pss_cons (ps_if (pt_cmpR (k_eq (K := K) rfl hr.units) (pv 0) pe_str (nomark _)) (pss_one (ps_ret (pe_lst (pa_cons pe_str (pa_cons (pe_ifExp (pt_val (pv 2)) (pe_callS G_least_multiple (hr.mono (by decide)) rfl T.D_least_multiple.g T.D_least_multiple.k T.D_least_multiple.b (fun σ => passAt tk σ) (pa_cons (pe_ix (k_ix (K := K) rfl) (pv 1) pe_int (fun _ _ => rfl)) pa_nil)) (pe_callKS G_least_multiple (hr.mono (by decide)) rfl T.D_least_multiple.g T.D_least_multiple.k T.B_least_multiple (fun σ => passAt tk σ) (pk_cons (pe_ix (k_ix (K := K) rfl) (pv 1) pe_int (fun _ _ => rfl)) pk_nil))) pa_nil))))) pss_nil)
    (pss_cons (ps_if (pt_cmpR (k_eq (K := K) rfl hr.units) (pv 0) pe_str (nomark _)) (pss_one (ps_ret (pe_lst (pa_cons pe_str (pa_cons (pe_ifExp (pt_val (pv 2)) (pe_callS G_bezout (hr.mono (by decide)) rfl T.D_bezout.g T.D_bezout.k T.D_bezout.b (fun σ => passAt tk σ) (pa_cons (pe_ix (k_ix (K := K) rfl) (pv 1) pe_int (fun _ _ => rfl)) (pa_cons (pe_ix (k_ix (K := K) rfl) (pv 1) pe_int (fun _ _ => rfl)) pa_nil))) (pe_callKS G_bezout (hr.mono (by decide)) rfl T.D_bezout.g T.D_bezout.k T.B_bezout (fun σ => passAt tk σ) (pk_cons (pe_ix (k_ix (K := K) rfl) (pv 1) pe_int (fun _ _ => rfl)) (pk_cons (pe_ix (k_ix (K := K) rfl) (pv 1) pe_int (fun _ _ => rfl)) pk_nil)))) pa_nil))))) pss_nil)
    (pss_cons (ps_if (pt_cmpR (k_eq (K := K) rfl hr.units) (pv 0) pe_str (nomark _)) (pss_one (ps_ret (pe_lst (pa_cons pe_str (pa_cons (pe_ifExp (pt_val (pv 2)) (pe_callS G_inverse (hr.mono (by decide)) rfl T.D_inverse.g T.D_inverse.k T.D_inverse.b (fun σ => passAt tk σ) (pa_cons (pe_ix (k_ix (K := K) rfl) (pv 1) pe_int (fun _ _ => rfl)) (pa_cons (pe_ix (k_ix (K := K) rfl) (pv 1) pe_int (fun _ _ => rfl)) pa_nil))) (pe_callKS G_inverse (hr.mono (by decide)) rfl T.D_inverse.g T.D_inverse.k T.B_inverse (fun σ => passAt tk σ) (pk_cons (pe_ix (k_ix (K := K) rfl) (pv 1) pe_int (fun _ _ => rfl)) (pk_cons (pe_ix (k_ix (K := K) rfl) (pv 1) pe_int (fun _ _ => rfl)) pk_nil)))) pa_nil))))) pss_nil)
    (pss_cons (ps_if (pt_cmpR (k_eq (K := K) rfl hr.units) (pv 0) pe_str (nomark _)) (pss_one (ps_ret (pe_lst (pa_cons pe_str (pa_cons (pe_ifExp (pt_val (pv 2)) (pe_callS G_primes_in (hr.mono (by decide)) rfl T.D_primes_in.g T.D_primes_in.k T.D_primes_in.b (fun σ => passAt tk σ) (pa_cons (pe_ix (k_ix (K := K) rfl) (pv 1) pe_int (fun _ _ => rfl)) pa_nil)) (pe_callKS G_primes_in (hr.mono (by decide)) rfl T.D_primes_in.g T.D_primes_in.k T.B_primes_in (fun σ => passAt tk σ) (pk_cons (pe_ix (k_ix (K := K) rfl) (pv 1) pe_int (fun _ _ => rfl)) pk_nil))) pa_nil))))) pss_nil)
    (pss_one (ps_ret (pe_lst (pa_cons pe_str (pa_cons (pe_ifExp (pt_val (pv 2)) (pe_callS G_valuation (hr.mono (by decide)) rfl T.D_valuation.g T.D_valuation.k T.D_valuation.b (fun σ => passAt tk σ) (pa_cons (pe_ix (k_ix (K := K) rfl) (pv 1) pe_int (fun _ _ => rfl)) (pa_cons (pe_ix (k_ix (K := K) rfl) (pv 1) pe_int (fun _ _ => rfl)) pa_nil))) (pe_callKS G_valuation (hr.mono (by decide)) rfl T.D_valuation.g T.D_valuation.k T.B_valuation (fun σ => passAt tk σ) (pk_cons (pe_ix (k_ix (K := K) rfl) (pv 1) pe_int (fun _ _ => rfl)) (pk_cons (pe_ix (k_ix (K := K) rfl) (pv 1) pe_int (fun _ _ => rfl)) pk_nil)))) pa_nil))))))))))))) (HdsA.cons (i := 3) rfl rfl ⟨rfl, by decide, .inl T.c_InvalidNumber.gC⟩ (fun a oe cls d pn hz hf => (pss_one (ps_ret (pe_lst (pa_cons pe_str (pa_cons (pe_xf T.x_InvalidNumber T.c_InvalidNumber.noN hz hf (pv 3)) pa_nil)))))) (HdsA.cons (i := 3) rfl rfl ⟨rfl, by decide, .inl T.c_InvalidNumbers.gC⟩ (fun a oe cls d pn hz hf => (pss_one (ps_ret (pe_lst (pa_cons pe_str (pa_cons (pe_xf T.x_InvalidNumbers T.c_InvalidNumbers.noN hz hf (pv 3)) pa_nil)))))) (HdsA.cons (i := 3) rfl rfl ⟨rfl, by decide, .inl T.c_InvalidModulus.gC⟩ (fun a oe cls d pn hz hf => (pss_one (ps_ret (pe_lst (pa_cons pe_str (pa_cons (pe_xf T.x_InvalidModulus T.c_InvalidModulus.noN hz hf (pv 3)) pa_nil)))))) (HdsA.cons (i := 3) rfl rfl ⟨rfl, by decide, .inl T.c_InvalidPrime.gC⟩ (fun a oe cls d pn hz hf => (pss_one (ps_ret (pe_lst (pa_cons pe_str (pa_cons (pe_xf T.x_InvalidPrime T.c_InvalidPrime.noN hz hf (pv 3)) pa_nil)))))) HdsA.nil)))))), fun W x hC => ?_⟩
  obtain ⟨which, a, nm, tag, val⟩ := x
  dsimp only at hC ⊢
  refine TyS.never (tys_try (Er := fun c d σ H => nE W [some (dt K (.str which)), some (dt K (.list a)), some (dt K (.bool nm)), none] σ H ∧ ∃ dd, d = some dd ∧ ∃ k : Cls, c = .ref (T.cls k) ∧ tag = k.tag ∧ HeldF W flG (dt K val) dd H) (fun Wx hW => ?_) fun D dr c d σ H e => ?_)
  · have er : ∀ c : Cls, tag = c.tag → ErX W [some (dt K (.str which)), some (dt K (.list a)), some (dt K (.bool nm)), none] Wx ⟨T.cls c, flG, dt K val⟩ := fun c q dd σ H n hl => hW _ _ _ _ ⟨n, dd, rfl, c, rfl, q, hl⟩
    have no : ∀ {x : Str}, which ≠ x → Tt W [some (dt K (.str which)), some (dt K (.list a)), some (dt K (.bool nm)), none] (tTest (tOp (rEqA K) (tVar 0) (tC (.str x)))) (· = false) := fun {x} h => Tt.is (tt_test (ty_op (ty_var rfl) ty_str opt_eqS)) (decide_eq_false h)
    have yes : ∀ {x : Str}, which = x → Tt W [some (dt K (.str which)), some (dt K (.list a)), some (dt K (.bool nm)), none] (tTest (tOp (rEqA K) (tVar 0) (tC (.str x)))) (· = true) := fun {x} h => Tt.is (tt_test (ty_op (ty_var rfl) ty_str opt_eqS)) (decide_eq_true h)
    have nam : Tt W [some (dt K (.str which)), some (dt K (.list a)), some (dt K (.bool nm)), none] (tB (tVar 2)) (· = nm) := tt_B (ty_var rfl)
    have at_ : ∀ (n : Nat) (d : PyData), a[n]? = some d → Ty W [some (dt K (.str which)), some (dt K (.list a)), some (dt K (.bool nm)), none] (tOp (rIx K) (tVar 1) (tC (.int (n : Nat)))) (dt K d) := fun n d h => ty_op (ty_var rfl) ty_int (opt_ixL (atI_nat h))
    have ix1 : ∀ d, a = [d] → TyA W [some (dt K (.str which)), some (dt K (.list a)), some (dt K (.bool nm)), none] (tCons (tOp (rIx K) (tVar 1) (tC (.int 0))) tNil) [dt K d] := fun d q => by
      subst q
      exact tya_cons (at_ 0 _ rfl) tya_nil
    have ix2 : ∀ d e, a = [d, e] → TyA W [some (dt K (.str which)), some (dt K (.list a)), some (dt K (.bool nm)), none] (tCons (tOp (rIx K) (tVar 1) (tC (.int 0))) (tCons (tOp (rIx K) (tVar 1) (tC (.int 1))) tNil)) [dt K d, dt K e] ∧
        TyA W [some (dt K (.str which)), some (dt K (.list a)), some (dt K (.bool nm)), none] (tCons (tOp (rIx K) (tVar 1) (tC (.int 1))) (tCons (tOp (rIx K) (tVar 1) (tC (.int 0))) tNil)) [dt K e, dt K d] := fun d e q => by
      subst q
      exact ⟨tya_cons (at_ 0 _ rfl) (tya_cons (at_ 1 _ rfl) tya_nil), tya_cons (at_ 1 _ rfl) (tya_cons (at_ 0 _ rfl) tya_nil)⟩
    have ix3 : ∀ d e f, a = [d, e, f] → TyA W [some (dt K (.str which)), some (dt K (.list a)), some (dt K (.bool nm)), none] (tCons (tOp (rIx K) (tVar 1) (tC (.int 0))) (tCons (tOp (rIx K) (tVar 1) (tC (.int 1))) (tCons (tOp (rIx K) (tVar 1) (tC (.int 2))) tNil))) [dt K d, dt K e, dt K f] ∧
        TyA W [some (dt K (.str which)), some (dt K (.list a)), some (dt K (.bool nm)), none] (tCons (tOp (rIx K) (tVar 1) (tC (.int 2))) (tCons (tOp (rIx K) (tVar 1) (tC (.int 1))) (tCons (tOp (rIx K) (tVar 1) (tC (.int 0))) tNil))) [dt K f, dt K e, dt K d] := fun d e f q => by
      subst q
      exact ⟨tya_cons (at_ 0 _ rfl) (tya_cons (at_ 1 _ rfl) (tya_cons (at_ 2 _ rfl) tya_nil)), tya_cons (at_ 2 _ rfl) (tya_cons (at_ 1 _ rfl) (tya_cons (at_ 0 _ rfl) tya_nil))⟩
    have skip : ∀ {x : Str} {t1 t2 : TS}, which ≠ x → TyS W [some (dt K (.str which)), some (dt K (.list a)), some (dt K (.bool nm)), none] t2 noN (rW W (dt K (.list [.str tag, val]))) noN noN → TyS W [some (dt K (.str which)), some (dt K (.list a)), some (dt K (.bool nm)), none] (tSeq (tIfS (tTest (tOp (rEqA K) (tVar 0) (tC (.str x)))) t1 tNext) t2) noN (rW W (dt K (.list [.str tag, val]))) noN noN := fun {x t1 t2} h k => tys_guard (φ := (· = false)) (no h) (fun z => Bool.noConfusion z) fun _ => k
    have take : ∀ {x : Str} {t1 t2 : TS}, which = x → TyS W [some (dt K (.str which)), some (dt K (.list a)), some (dt K (.bool nm)), none] t1 noN (rW W (dt K (.list [.str tag, val]))) noN noN → TyS W [some (dt K (.str which)), some (dt K (.list a)), some (dt K (.bool nm)), none] (tSeq (tIfS (tTest (tOp (rEqA K) (tVar 0) (tC (.str x)))) t1 tNext) t2) noN (rW W (dt K (.list [.str tag, val]))) noN noN := fun {x t1 t2} h k => tys_guard (φ := (· = true)) (yes h) (fun _ => k) fun z => Bool.noConfusion z
    cases hC with
    | rest d e _ _ h =>
      have ha := ix2 _ _ rfl
      exact take rfl (tys_out (T := T) (d, e) trivial nam ha.1 ha.2 tysv_rev2 h er)
    | same d e f _ _ h =>
      have ha := ix3 _ _ _ rfl
      exact skip (by decide) (take rfl (tys_out (T := T) (d, e, f) trivial nam ha.1 ha.2 tysv_rev3 h er))
    | common d _ _ c h =>
      have ha := ix1 _ rfl
      exact skip (by decide) (skip (by decide) (take rfl (tys_out (T := T) d c nam ha ha tysv_id h er)))
    | multiple d _ _ c h =>
      have ha := ix1 _ rfl
      exact skip (by decide) (skip (by decide) (skip (by decide) (take rfl (tys_out (T := T) d c nam ha ha tysv_id h er))))
    | bezout d e _ _ c h =>
      have ha := ix2 _ _ rfl
      exact skip (by decide) (skip (by decide) (skip (by decide) (skip (by decide) (take rfl (tys_out (T := T) (d, e) c nam ha.1 ha.2 tysv_rev2 h er)))))
    | inverse d e _ _ c h =>
      have ha := ix2 _ _ rfl
      exact skip (by decide) (skip (by decide) (skip (by decide) (skip (by decide) (skip (by decide) (take rfl (tys_out (T := T) (d, e) c nam ha.1 ha.2 tysv_rev2 h er))))))
    | primes d _ _ h =>
      have ha := ix1 _ rfl
      exact skip (by decide) (skip (by decide) (skip (by decide) (skip (by decide) (skip (by decide) (skip (by decide) (take rfl (tys_out (T := T) d trivial nam ha ha tysv_id h er)))))))
    | valuation d e _ _ c h =>
      have ha := ix2 _ _ rfl
      exact skip (by decide) (skip (by decide) (skip (by decide) (skip (by decide) (skip (by decide) (skip (by decide) (skip (by decide) (tys_out (T := T) (d, e) c nam ha.1 ha.2 tysv_rev2 h er)))))))
  · obtain ⟨n, dd, rfl, k, rfl, rfl, hl⟩ := e
    have ret : ∀ (t : Str) (ad : Addr) (cls : Value) (d : Option Addr) (c : Addr), cls = .ref c → d = some dd → TyS W ([some (dt K (.str which)), some (dt K (.list a)), some (dt K (.bool nm)), none].set 3 (some (erF dd ad flG (dt K val)))) (tRet (tLst (tCons (tC (.str t)) (tCons (tXf ad cls d c "given" (tVar 3)) tNil)))) noN (rW W (dt K (.list [.str t, val]))) noN noN :=
      fun t ad cls d c hc hd => tys_retW (ty_lstD (ds := [.str t, val]) (tya_cons ty_str (tya_cons (ty_field flG_given hc hd (ty_var rfl)) tya_nil)) (by show 2 ≤ 1000000; decide))
    cases k with
    | num => exact hdl_hitX T.e_InvalidNumber_InvalidNumber n hl dr fun a => ret "number" a _ _ _ rfl rfl
    | nums => exact hdl_miss T.e_InvalidNumbers_InvalidNumber (hdl_hitX T.e_InvalidNumbers_InvalidNumbers n hl dr fun a => ret "numbers" a _ _ _ rfl rfl)
    | mod => exact hdl_miss T.e_InvalidModulus_InvalidNumber (hdl_miss T.e_InvalidModulus_InvalidNumbers (hdl_hitX T.e_InvalidModulus_InvalidModulus n hl dr fun a => ret "modulus" a _ _ _ rfl rfl))
    | pri => exact hdl_miss T.e_InvalidPrime_InvalidNumber (hdl_miss T.e_InvalidPrime_InvalidNumbers (hdl_miss T.e_InvalidPrime_InvalidModulus (hdl_hitX T.e_InvalidPrime_InvalidPrime n hl dr fun a => ret "prime" a _ _ _ rfl rfl)))
end
section
variable {P : Program} {w : World} {K : PySem.W.Frag} {mg : Str → Option Value} {base : Heap}
theorem EuI.fin {one other : Int} : ∀ {s : Row2}, EuI one other s → EuI one other (euc s) := fun {s} I => by
  by_cases h : s.r1 = 0
  · rw [euc_stop h]; exact I
  · rw [euc_go h]
    exact EuI.fin (I.step h)
termination_by s => s.r1.natAbs
decreasing_by exact step_lt h
theorem bd_neg {n : Nat} {i : Int} (h : bd n i) : bd n (-i) := by unfold bd at *; rw [Int.natAbs_neg]; exact h
theorem sh_bd {one other : Int} (h1 : sq one) (h2 : sq other) : ∀ v ∈ shI one other, bd 403 v := by
  have B := (EuI.fin (s := startR one other) ⟨rfl, .inl rfl⟩).small h1 h2
  unfold shI endR
  intro v hv
  split at hv
  · have hv' : v = (euc (startR one other)).r0 ∨ v = (euc (startR one other)).x0 ∨ v = (euc (startR one other)).y0 := by simpa using hv
    rcases hv' with rfl | rfl | rfl
    · exact B.r0
    · exact B.x0
    · exact B.y0
  · have hv' : v = -(euc (startR one other)).r0 ∨ v = -(euc (startR one other)).x0 ∨ v = -(euc (startR one other)).y0 := by simpa using hv
    rcases hv' with rfl | rfl | rfl
    · exact bd_neg B.r0
    · exact bd_neg B.x0
    · exact bd_neg B.y0
theorem Intg.sq {i : Int} (h : Intg i) : sq i := by
  have z : bd 133 i := by
    have h' : i.natAbs ≤ 2 ^ 132 := h
    show i.natAbs < 2 ^ 133
    omega
  exact z.mono (by decide)
def Oth (i : Int) : Prop := i.natAbs ≤ 2 ^ 134
theorem Oth.sq {i : Int} (h : Oth i) : sq i := by
  have z : bd 135 i := by
    have h' : i.natAbs ≤ 2 ^ 134 := h
    show i.natAbs < 2 ^ 135
    omega
  exact z.mono (by decide)
theorem Mdl.sq {i : Int} (h : Mdl i) : sq i := by
  obtain ⟨h1, h2⟩ := h
  have z : bd 110 i := by
    show i.natAbs < 2 ^ 110
    omega
  exact z.mono (by decide)
theorem inv_ok {n m x y : Int} (hm : 0 < m) (e : 1 = x * (n % m) + y * m) : (x % m * n - 1) % m = 0 := by
  refine Int.emod_eq_zero_of_dvd ?_
  have a := Int.emod_add_mul_ediv x m
  have b := Int.emod_add_mul_ediv n m
  generalize x / m = p at *
  generalize n / m = q at *
  refine ⟨x * q - p * n - y, ?_⟩
  have a' : x % m = x - m * p := by omega
  have b' : n = n % m + m * q := by omega
  generalize n % m = r at *
  rw [a']
  have : (x - m * p) * n - 1 = x * n - m * p * n - 1 := by grind
  rw [this]
  have h2 : x * n = x * r + x * (m * q) := by rw [b']; grind
  rw [h2]
  grind
theorem smOk_told {n : Nat} {tag : Str} {v : PyData} (h : smOk (n + 1) v) (ht : tag.length ≤ 1000) : smOk (n + 2) (.list [.str tag, v]) := ⟨by show 2 ≤ 1000; decide, fun e he => by
  have he' : e = .str tag ∨ e = v := by simpa using he
  rcases he' with rfl | rfl
  · exact ht
  · exact h⟩
theorem smOk_two {n : Nat} {a b : PyData} (h : smOk n a) (k : smOk n b) : smOk (n + 1) (.list [a, b]) := ⟨by show 2 ≤ 1000; decide, fun e he => by
  have he' : e = a ∨ e = b := by simpa using he
  rcases he' with rfl | rfl
  · exact h
  · exact k⟩
theorem smOk_tup {n : Nat} {l : List Int} (h : l.length ≤ 1000) : smOk (n + 2) (intsD l) := ⟨by rw [List.length_map]; exact h, fun e he => by
  obtain ⟨v, _, rfl⟩ := List.mem_map.mp he
  exact trivial⟩
theorem shaped_list {ds : List PyData} (h : ds.all isWholeD = true) : SeqAt.shaped (.list ds) = true := by
  obtain ⟨k1, k2⟩ := lay_whole h
  simp [SeqAt.shaped, PyData.canLay0, PyData.depth, k1, k2]
theorem opt_neNilL {W : Wd} {K : PySem.W.Frag} {ds : List PyData} (h : ds.all isWholeD = true) : OpT W (rNeA K) (dt K (.list ds)) (dt K (.list [])) (dt K (.bool (!decide (ds.length = 0)))) := by
  have z := opt_neD (W := W) (K := K) (shaped_list h) (show SeqAt.shaped (.list []) = true from rfl)
  rw [eqv_nilL] at z
  exact z
theorem ty_lc2 {W : Wd} {Γ : Gam} {K : PySem.W.Frag} {tl : TA} {x : CallX} {E : XK} (hC : CallOk x.which x.a x.tag x.val) (h : TyA W Γ tl [dt K (.str x.which), dt K (.list x.a), dt K (.bool x.nm)]) : Ty W Γ (tCall (sp_law_call K) [] E tl) (dt K (.list [.str x.tag, x.val])) := ty_call x hC h
theorem ty_l1 {W : Wd} {Γ : Gam} {K : PySem.W.Frag} {te : TE} {d : PyData} (h : Ty W Γ te (dt K d)) : Ty W Γ (tLst (tCons te tNil)) (dt K (.list [d])) := ty_lstD (ds := [d]) (tya_cons h tya_nil) (by show 1 ≤ 1000000; decide)
theorem ty_l2 {W : Wd} {Γ : Gam} {K : PySem.W.Frag} {te tb : TE} {d e : PyData} (h : Ty W Γ te (dt K d)) (k : Ty W Γ tb (dt K e)) : Ty W Γ (tLst (tCons te (tCons tb tNil))) (dt K (.list [d, e])) := ty_lstD (ds := [d, e]) (tya_cons h (tya_cons k tya_nil)) (by show 2 ≤ 1000000; decide)
theorem ty_l3 {W : Wd} {Γ : Gam} {K : PySem.W.Frag} {te tb tc : TE} {d e f : PyData} (h : Ty W Γ te (dt K d)) (k : Ty W Γ tb (dt K e)) (j : Ty W Γ tc (dt K f)) : Ty W Γ (tLst (tCons te (tCons tb (tCons tc tNil)))) (dt K (.list [d, e, f])) := ty_lstD (ds := [d, e, f]) (tya_cons h (tya_cons k (tya_cons j tya_nil))) (by show 3 ≤ 1000000; decide)
/-- ok arguments -/
theorem bRest_ok {n m : Int} (h : 0 ≤ m) : bRest (.int n) (.int m) = none := by
  unfold bRest bMod
  rw [if_pos (show isWholeD (.int n) = true from rfl), if_pos (show modOk (.int m) = true from decide_eq_true h)]
theorem bTwo_ok {n k : Int} {r : Option (Cls × PyData)} : bTwo (.int n) (.int k) r = r := by
  unfold bTwo
  rw [if_pos (show isWholeD (.int n) = true from rfl), if_pos (show isWholeD (.int k) = true from rfl)]
theorem bMod_ok {m : Int} (h : 0 ≤ m) : bMod (.int m) = none := by
  unfold bMod
  rw [if_pos (show modOk (.int m) = true from decide_eq_true h)]
theorem bInv_ok {n m : Int} (h : 1 ≤ m) : bInv (.int n) (.int m) = none := by
  unfold bInv
  rw [if_pos (show isWholeD (.int n) = true from rfl), if_pos (show mod1 (.int m) = true from decide_eq_true h)]
def sp_law_numbers_right (K : PySem.W.Frag) : Sp := spT (fun _ : Bool => True) (fun b => [bx, dt K (.bool b)]) (fun _ => dt K (.bool true))
theorem ok_law_numbers_right (T : Tx P K mg) : FnOk P w K mg base (L2.CX P w) 9 T.a_law_numbers_right T.f_law_numbers_right ["box", "named"] (sp_law_numbers_right K) := by
  have G_law_call := ok_law_call (w := w) (base := base) T
  have G_law_integer := ok_law_integer (w := w) (base := base) T
  have G_law_modulus := ok_law_modulus (w := w) (base := base) T
  have G_law_same := ok_law_same (w := w) (base := base) T
  have G_law_common := ok_law_common (w := w) (base := base) T
  have G_law_take := ok_law_take (w := w) (base := base) T
  have G_law_left := ok_law_left (w := w) (base := base) T
  have nd := sc_law_numbers_right.nd
  refine fn_ty T.F_law_numbers_right sc_law_numbers_right (fun x _ => rfl) fun cdv Ar outer s H E hr => ⟨_, (pss_cons (ps_par (i := 2) (j := 3) rfl nd rfl rfl (by decide) rfl rfl (pa_cons (pcall G_law_integer (hr.mono (by decide)) T.D_law_integer (pa_cons (pv 0) pa_nil)) (pa_cons (pcall G_law_modulus (hr.mono (by decide)) T.D_law_modulus (pa_cons (pv 0) pa_nil)) pa_nil)) (by rfl))
    (pss_cons (pset 4 nd (pe_ifExp (pt_cmpR (k_eq (K := K) rfl hr.units) (pcall G_law_take (hr.mono (by decide)) T.D_law_take (pa_cons (pv 0) (pa_cons pe_int pa_nil))) pe_int (nomark _)) (pe_op (k_add (K := K) rfl) (pv 2) (pe_op op_mulA (pv 3) (pe_op op_sub (pcall G_law_take (hr.mono (by decide)) T.D_law_take (pa_cons (pv 0) (pa_cons pe_int pa_nil))) pe_int))) (pcall G_law_integer (hr.mono (by decide)) T.D_law_integer (pa_cons (pv 0) pa_nil))))
    (pss_cons (pset 5 nd (pe_ifExp (pt_cmpR (k_eq (K := K) rfl hr.units) (pv 3) pe_int (nomark _)) (pe_cmpR (k_eq (K := K) rfl hr.units) (pv 2) (pv 4) (nomark _)) (pe_cmpR (k_eq (K := K) rfl hr.units) (pe_op op_mod (bi_int T.m_int (pa_cons (pe_op op_sub (pv 2) (pv 4)) pa_nil)) (pv 3)) pe_int (nomark _))))
    (pss_cons (pset 6 nd (pe_lst (pa_cons (pcall G_law_call (hr.mono (by decide)) T.D_law_call (pa_cons pe_str (pa_cons (pe_lst (pa_cons (pv 2) (pa_cons (pv 3) pa_nil))) (pa_cons (pv 1) pa_nil)))) (pa_cons (pcall G_law_call (hr.mono (by decide)) T.D_law_call (pa_cons pe_str (pa_cons (pe_lst (pa_cons (pv 2) (pa_cons (pv 4) (pa_cons (pv 3) pa_nil)))) (pa_cons (pe_not (pv 1)) pa_nil)))) pa_nil))))
    (pss_cons (ps_if (pt_not (pt_val (pcall G_law_same (hr.mono (by decide)) T.D_law_same (pa_cons (pv 6) (pa_cons (pe_lst (pa_cons (pe_lst (pa_cons pe_str (pa_cons (pcall G_law_left (hr.mono (by decide)) T.D_law_left (pa_cons (pv 2) (pa_cons (pv 3) pa_nil))) pa_nil))) (pa_cons (pe_lst (pa_cons pe_str (pa_cons (pv 5) pa_nil))) pa_nil))) pa_nil))))) (pss_one (ps_ret pe_bl)) pss_nil)
    (pss_cons (pset 7 nd (pcall G_law_call (hr.mono (by decide)) T.D_law_call (pa_cons pe_str (pa_cons (pe_lst (pa_cons (pv 2) (pa_cons (pv 4) pa_nil))) (pa_cons (pv 1) pa_nil)))))
    (pss_cons (ps_if (PW.pt (pw_or (pt_cmpR (k_ne (K := K) rfl hr.units) (pe_ix (k_ix (K := K) rfl) (pv 7) pe_int (fun _ _ => rfl)) pe_str (nomark _)) (pw_or (pt_not (pt_val (k_isi (K := K) rfl T.m_isinstance (pa_cons (pe_ix (k_ix (K := K) rfl) (pv 7) pe_int (fun _ _ => rfl)) (pa_cons (bt_tuple T.m_tuple) pa_nil))))) (pw_or (pt_cmpR (k_ne (K := K) rfl hr.units) (k_len (K := K) rfl T.m_len (pa_cons (pe_ix (k_ix (K := K) rfl) (pv 7) pe_int (fun _ _ => rfl)) pa_nil)) pe_int (nomark _)) (pw_or1 (pt_cmpR (k_ne (K := K) rfl hr.units) (plc [("item", 8)] nd (k_itup (K := K) rfl (pe_ix (k_ix (K := K) rfl) (pv 7) pe_int (fun _ _ => rfl))) (fun _ _ _ _ _ => (pgn 8 nd)) (fun _ _ _ _ _ => (pts_one (PW.pt (pw_or (pt_not (pt_val (k_isi (K := K) rfl T.m_isinstance (pa_cons (pv 8) (pa_cons (bt_int T.m_int) pa_nil))))) (pw_or1 (pt_val (k_isi (K := K) rfl T.m_isinstance (pa_cons (pv 8) (pa_cons (bt_bool T.m_bool) pa_nil))))))))) (fun _ _ _ _ _ => pe_int) (by kernel_rfl)) (pe_lst pa_nil) (nomark _))))))) (pss_one (ps_ret pe_bl)) pss_nil)
    (pss_cons (ps_asg (pe_ix (k_ix (K := K) rfl) (pv 7) pe_int (fun _ _ => rfl)) (k_gtup (K := K) (n := 3) rfl (pgs_cons (pgn 9 nd) (pgs_cons (pgn 10 nd) (pgs_cons (pgn 11 nd) pgs_nil)))))
    (pss_cons (ps_if (PW.pt (pw_or (pt_cmpR (k_ne (K := K) rfl hr.units) (pv 9) (pcall G_law_common (hr.mono (by decide)) T.D_law_common (pa_cons (pv 2) (pa_cons (pv 4) pa_nil))) (nomark _)) (pw_or (pt_cmpR (k_ne (K := K) rfl hr.units) (pv 9) (pe_op (k_add (K := K) rfl) (pe_op op_mulA (pv 10) (pv 2)) (pe_op op_mulA (pv 11) (pv 4))) (nomark _)) (pw_or1 (pt_not (pt_val (pcall G_law_same (hr.mono (by decide)) T.D_law_same (pa_cons (pcall G_law_call (hr.mono (by decide)) T.D_law_call (pa_cons pe_str (pa_cons (pe_lst (pa_cons (pv 2) (pa_cons (pv 4) pa_nil))) (pa_cons (pe_not (pv 1)) pa_nil)))) (pa_cons (pv 7) pa_nil))))))))) (pss_one (ps_ret pe_bl)) pss_nil)
    (pss_cons (ps_if (pt_cmpR (k_eq (K := K) rfl hr.units) (pv 3) pe_int (nomark _)) (pss_one (ps_ret pe_bl)) pss_nil)
    (pss_cons (pset 6 nd (pcall G_law_call (hr.mono (by decide)) T.D_law_call (pa_cons pe_str (pa_cons (pe_lst (pa_cons (pv 2) (pa_cons (pv 3) pa_nil))) (pa_cons (pe_not (pv 1)) pa_nil)))))
    (pss_cons (ps_if (pt_cmpR (k_ne (K := K) rfl hr.units) (pcall G_law_common (hr.mono (by decide)) T.D_law_common (pa_cons (pv 2) (pa_cons (pv 3) pa_nil))) pe_int (nomark _)) (pss_one (ps_ret (pcall G_law_same (hr.mono (by decide)) T.D_law_same (pa_cons (pv 6) (pa_cons (pe_lst (pa_cons pe_str (pa_cons pe_non pa_nil))) pa_nil))))) pss_nil)
    (pss_cons (pset 12 nd (pe_ix (k_ix (K := K) rfl) (pv 6) pe_int (fun _ _ => rfl)))
    (pss_one (ps_ret (pe_and (pe_cmpR (k_eq (K := K) rfl hr.units) (pe_ix (k_ix (K := K) rfl) (pv 6) pe_int (fun _ _ => rfl)) pe_str (nomark _)) (pe_and (k_isi (K := K) rfl T.m_isinstance (pa_cons (pv 12) (pa_cons (bt_int T.m_int) pa_nil))) (pe_and (pe_not (k_isi (K := K) rfl T.m_isinstance (pa_cons (pv 12) (pa_cons (bt_bool T.m_bool) pa_nil)))) (pe_and (pe_chain op_le op_lt pe_int (pv 12) (pv 3)) (pe_one (pe_cmpR (k_eq (K := K) rfl hr.units) (pe_op op_mod (bi_int T.m_int (pa_cons (pe_op op_sub (pe_op op_mulA (pv 12) (pv 2)) pe_int) pa_nil)) (pv 3)) pe_int (nomark _)))))))))))))))))))))), fun W x hC => ?_⟩
  have dig : ∀ (W' : Wd) (Γ : Gam) (n : Nat), Γ[0]? = some (some bx) → 0 < n → n ≤ 1000000 → Ty W' Γ (tCall (sp_law_take K) [] E0 (tCons (tVar 0) (tCons (tC (.int (n : Nat))) tNil))) (digT K n) := fun W' Γ n h h0 h1 => ty_call n ⟨h0, h1⟩ (tya_cons (ty_var h) (tya_cons ty_int tya_nil))
  refine tys_seqE (tys_par (A := inT K Intg) (C := inT K Mdl) (tya_cons (ty_call () trivial (tya_cons (ty_var rfl) tya_nil)) (tya_cons (ty_call () trivial (tya_cons (ty_var rfl) tya_nil)) tya_nil))) ?_
  refine TyS.openX (n := 2) rfl fun one => TyS.openG (n := 2) rfl fun h1 => TyS.openX (n := 3) rfl fun m => TyS.openG (n := 3) rfl fun hm => ?_
  have h1 : Intg one := h1
  have hm : Mdl m := hm
  have s1 := h1.sq
  have sm_ := hm.sq
  have m0 := hm.1
  show TyS W [some bx, some (dt K (.bool x)), some (dt K (.int one)), some (dt K (.int m)), none, none, none, none, none, none, none, none, none] _ _ _ _ _
  refine tys_seqE (tys_set (T := inT K Oth) (ty_if (φ := fun _ => True) (tt_eqX (dig_in (dig _ _ 2 rfl (by decide) (by decide))) ty_int) (fun _ => ty_addX (ty_in (φ := fun i => i = one) (ty_var rfl) rfl) (ty_mulX (χ := fun i => i.natAbs ≤ 10 ^ 31 * 8) (ty_in (φ := fun i => i = m) (ty_var rfl) rfl) (ty_subX (χ := fun i => i.natAbs ≤ 8) (dig_in (dig _ _ 9 rfl (by decide) (by decide))) (ty_in (φ := fun i => i = 4) ty_int rfl) fun i j hi hj => by omega) fun i j hi hj => ⟨.inr ⟨by omega, by omega⟩, by
      show (i * j).natAbs ≤ 10 ^ 31 * 8
      have h2 := hm.2
      rw [Int.natAbs_mul]
      exact Nat.mul_le_mul (by omega) hj⟩) fun i j hi hj => by
      have h1' : one.natAbs ≤ 2 ^ 132 := h1
      unfold Oth; omega) fun _ => in_sub (ty_call () trivial (tya_cons (ty_var rfl) tya_nil)) fun i hi => by
      have hi' : i.natAbs ≤ 2 ^ 132 := hi
      unfold Oth; omega)) ?_
  refine TyS.openX (n := 4) rfl fun other => TyS.openG (n := 4) rfl fun h2 => ?_
  have h2 : Oth other := h2
  have s2 := h2.sq
  show TyS W [some bx, some (dt K (.bool x)), some (dt K (.int one)), some (dt K (.int m)), some (dt K (.int other)), none, none, none, none, none, none, none, none] _ _ _ _ _
  refine tys_seqE (tys_set (T := dt K (.bool (divI m (one - other)))) (ty_if (φ := (· = decide (m = 0))) (tt_test (ty_op (ty_var rfl) ty_int opt_eqI)) (fun z => Ty.is (ty_op (ty_var rfl) (ty_var rfl) opt_eqI) (by unfold divI; rw [if_pos (of_decide_eq_true z.symm)]; exact congrArg PyData.bool (decide_eq_decide.mpr (by omega)))) fun z => Ty.is (ty_op (ty_op (ty_cb (tya_cons (ty_op (ty_var rfl) (ty_var rfl) opt_sub) tya_nil) cbt_intI) (ty_var rfl) (opt_mod (by have := of_decide_eq_false z.symm; omega))) ty_int opt_eqI) (by unfold divI; rw [if_neg (of_decide_eq_false z.symm)]))) ?_
  show TyS W [some bx, some (dt K (.bool x)), some (dt K (.int one)), some (dt K (.int m)), some (dt K (.int other)), some (dt K (.bool (divI m (one - other)))), none, none, none, none, none, none, none] _ _ _ _ _
  refine tys_seqE (tys_set (ty_l2 (ty_lc2 (x := ⟨"rest", [.int one, .int m], x, "told", .int (wrapI one m)⟩) (.rest _ _ _ _ (by rw [bRest_ok m0]; rfl)) (tya_cons ty_str (tya_cons (ty_l2 (ty_var rfl) (ty_var rfl)) (tya_cons (ty_var rfl) tya_nil)))) (ty_lc2 (x := ⟨"same", [.int one, .int other, .int m], !x, "told", .bool (divI m (one - other))⟩) (.same _ _ _ _ _ (by rw [bTwo_ok, bMod_ok m0]; rfl)) (tya_cons ty_str (tya_cons (ty_l3 (ty_var rfl) (ty_var rfl) (ty_var rfl)) (tya_cons (ty_notV (ty_var rfl)) tya_nil)))))) ?_
  refine tys_guard (φ := (· = false)) (Tt.is (tt_notB (tt_B (ty_call (PyData.list [.list [.str "told", .int (wrapI one m)], .list [.str "told", .bool (divI m (one - other))]]) (smOk_two (n := 7) (smOk_told (n := 5) trivial (by decide)) (smOk_told (n := 5) trivial (by decide))) (tya_cons (ty_var rfl) (tya_cons (ty_l2 (ty_l2 ty_str (ty_call (one, m) ⟨m0, s1, sm_⟩ (tya_cons (ty_var rfl) (tya_cons (ty_var rfl) tya_nil)))) (ty_l2 ty_str (ty_var rfl))) tya_nil))))) rfl) (fun z => Bool.noConfusion z) fun _ => ?_
  obtain ⟨a, b, e1, e2⟩ := sh_is one other
  have sb := sh_bd s1 s2
  rw [e1] at sb
  have ba : bd 403 a := sb a (by simp)
  have bb : bd 403 b := sb b (by simp)
  have hbz : CallOk "bezout" [.int one, .int other] "told" (intsD [gI one other, a, b]) := .bezout _ _ _ _ ⟨s1, s2⟩ (by rw [bTwo_ok, ← e1]; rfl)
  refine tys_seqE (tys_set (ty_lc2 (x := ⟨"bezout", [.int one, .int other], x, "told", intsD [gI one other, a, b]⟩) hbz (tya_cons ty_str (tya_cons (ty_l2 (ty_var rfl) (ty_var rfl)) (tya_cons (ty_var rfl) tya_nil))))) ?_
  show TyS W [some bx, some (dt K (.bool x)), some (dt K (.int one)), some (dt K (.int m)), some (dt K (.int other)), some (dt K (.bool (divI m (one - other)))), some (dt K (.list [.list [.str "told", .int (wrapI one m)], .list [.str "told", .bool (divI m (one - other))]])), some (dt K (.list [.str "told", intsD [gI one other, a, b]])), none, none, none, none, none] _ _ _ _ _
  have ix0 : ∀ (W' : Wd) (Γ : Gam) (t : PyData), Γ[7]? = some (some (dt K (.list [.str "told", t]))) → Ty W' Γ (tOp (rIx K) (tVar 7) (tC (.int 0))) (dt K (.str "told")) := fun W' Γ t h => ty_op (ty_var h) ty_int (opt_ixL (i := 0) (atI_nat (j := 0) rfl))
  have ix1 : ∀ (W' : Wd) (Γ : Gam) (t : PyData), Γ[7]? = some (some (dt K (.list [.str "told", t]))) → Ty W' Γ (tOp (rIx K) (tVar 7) (tC (.int 1))) (dt K t) := fun W' Γ t h => ty_op (ty_var h) ty_int (opt_ixL (i := 1) (atI_nat (j := 1) rfl))
  refine tys_guard (φ := (· = false)) (tt_orB (a := false) (Tt.is (tt_test (ty_op (ix0 _ _ _ rfl) ty_str opt_neS)) (by simp)) fun _ => tt_orB (a := false) (Tt.is (tt_notB (tt_B (ty_cb (tya_cons (ix1 _ _ _ rfl) (tya_cons ty_c tya_nil)) (cbt_isi (by decide))))) rfl) fun _ => tt_orB (a := false) (Tt.is (tt_test (ty_op (ty_cb (tya_cons (ix1 _ _ _ rfl) tya_nil) cbt_lenT) ty_int opt_neI)) (by simp)) fun _ => Tt.is (tt_test (ty_op (Ty.is (ty_lstG (f := fun _ : Int => PyData.int 1) (xs := [gI one other, a, b].filter fun _ => false) (tyl_filter (fun i : Int => dt K (.int i)) (fun _ => dt K (.int 1)) (fun _ => false) (tyi_tupA (f := PyData.int) (xs := [gI one other, a, b]) (ix1 _ _ _ rfl)) (by show 3 ≤ 1000000; decide) (by decide) fun W' i hi => ⟨Tt.is (tt_orB (a := false) (Tt.is (tt_notB (tt_B (ty_cb (tya_cons (ty_var rfl) (tya_cons ty_c tya_nil)) (cbt_isi (by decide))))) rfl) fun _ => Tt.is (tt_B (ty_cb (tya_cons (ty_var rfl) (tya_cons ty_c tya_nil)) (cbt_isi (by decide)))) (b := false) rfl) rfl, fun z => Bool.noConfusion z⟩)) (show _ = PyData.list [] by simp)) (ty_lstD (ds := []) tya_nil (by show 0 ≤ 1000000; decide)) (opt_neNilL (ds := []) rfl))) rfl) (fun z => Bool.noConfusion z) fun _ => ?_
  refine tys_seqE (tys_asg (ix1 _ _ _ rfl) tyg_tri) ?_
  show TyS W [some bx, some (dt K (.bool x)), some (dt K (.int one)), some (dt K (.int m)), some (dt K (.int other)), some (dt K (.bool (divI m (one - other)))), some (dt K (.list [.list [.str "told", .int (wrapI one m)], .list [.str "told", .bool (divI m (one - other))]])), some (dt K (.list [.str "told", intsD [gI one other, a, b]])), none, some (dt K (.int (gI one other))), some (dt K (.int a)), some (dt K (.int b)), none] _ _ _ _ _
  refine tys_guard (φ := (· = false)) (tt_orB (a := false) (Tt.is (tt_test (ty_op (ty_var rfl) (ty_call (one, other) trivial (tya_cons (ty_var rfl) (tya_cons (ty_var rfl) tya_nil))) opt_neI)) (by simp)) fun _ => tt_orB (a := false) (Tt.is (tt_test (ty_op (ty_var rfl) (ty_op (ty_op (ty_var rfl) (ty_var rfl) (opt_mulW (ba.mul_ok s1 (by decide)))) (ty_op (ty_var rfl) (ty_var rfl) (opt_mulW (bb.mul_ok s2 (by decide)))) opt_add) opt_neI)) (by rw [← e2]; simp)) fun _ => Tt.is (tt_notB (tt_B (ty_call (PyData.list [.str "told", intsD [gI one other, a, b]]) (smOk_told (n := 6) (smOk_tup (by show 3 ≤ 1000; decide)) (by decide)) (tya_cons (ty_lc2 (x := ⟨"bezout", [.int one, .int other], !x, "told", intsD [gI one other, a, b]⟩) hbz (tya_cons ty_str (tya_cons (ty_l2 (ty_var rfl) (ty_var rfl)) (tya_cons (ty_notV (ty_var rfl)) tya_nil)))) (tya_cons (ty_var rfl) tya_nil))))) rfl) (fun z => Bool.noConfusion z) fun _ => ?_
  refine tys_guard (φ := (· = decide (m = 0))) (tt_test (ty_op (ty_var rfl) ty_int opt_eqI)) (fun _ => tys_retW ty_bl) fun z => ?_
  have mz := of_decide_eq_false z.symm
  have m1 : 1 ≤ m := by omega
  obtain ⟨p, q, i1, i2, i3⟩ := invD_is (n := one) (m := m)
  have gg : gI (one % m) m = gI one m := by rw [gI_comm, gI_mod]
  rw [gg] at i2 i3
  refine tys_seqE (tys_set (ty_lc2 (x := ⟨"inverse", [.int one, .int m], !x, "told", invD one m⟩) (.inverse _ _ _ _ ⟨s1, sm_⟩ (by rw [bInv_ok m1]; rfl)) (tya_cons ty_str (tya_cons (ty_l2 (ty_var rfl) (ty_var rfl)) (tya_cons (ty_notV (ty_var rfl)) tya_nil))))) ?_
  show TyS W [some bx, some (dt K (.bool x)), some (dt K (.int one)), some (dt K (.int m)), some (dt K (.int other)), some (dt K (.bool (divI m (one - other)))), some (dt K (.list [.str "told", invD one m])), some (dt K (.list [.str "told", intsD [gI one other, a, b]])), none, some (dt K (.int (gI one other))), some (dt K (.int a)), some (dt K (.int b)), none] _ _ _ _ _
  refine tys_guard (φ := (· = !decide (gI one m = 1))) (tt_test (ty_op (ty_call (one, m) trivial (tya_cons (ty_var rfl) (tya_cons (ty_var rfl) tya_nil))) ty_int opt_neI)) (fun z => ?_) fun z => ?_
  · have c : ¬ gI one m = 1 := by simpa using z
    rw [if_neg c] at i3
    rw [i3]
    exact tys_retW (ty_call (PyData.list [.str "told", .none]) (smOk_told (n := 6) trivial (by decide)) (tya_cons (ty_var rfl) (tya_cons (ty_l2 ty_str ty_non) tya_nil)))
  · have c : gI one m = 1 := by simpa using z
    rw [if_pos c] at i3
    rw [i3]
    rw [c] at i2
    have p0 := Int.emod_nonneg p mz
    have p1 := Int.emod_lt_of_pos p (show 0 < m by omega)
    have bp : bd 400 (p % m) := sm_.le p0 (by omega)
    refine tys_seqE (tys_set (T := dt K (.int (p % m))) (ty_op (ty_var rfl) ty_int (opt_ixL (i := 1) (d := .int (p % m)) (ds := [.str "told", .int (p % m)]) (atI_nat (j := 1) rfl)))) ?_
    refine TyS.never (tys_retW (Ty.is (ty_andV (a := true) (b := true) (Ty.is (ty_op (ty_op (ty_var rfl) ty_int (opt_ixL (i := 0) (d := .str "told") (ds := [.str "told", .int (p % m)]) (atI_nat (j := 0) rfl))) ty_str opt_eqS) (by simp)) fun _ => Ty.is (ty_andV (a := true) (b := true) (Ty.is (ty_cb (tya_cons (ty_var rfl) (tya_cons ty_c tya_nil)) (cbt_isi (by decide))) rfl) fun _ => Ty.is (ty_andV (a := true) (b := true) (Ty.is (ty_notV (ty_cb (tya_cons (ty_var rfl) (tya_cons ty_c tya_nil)) (cbt_isi (by decide)))) rfl) fun _ => Ty.is (ty_andV (a := true) (b := true) (Ty.is (ty_chain ty_int (ty_var rfl) opt_le (fun _ => ty_var rfl) opt_lt) (by rw [decide_eq_true p0, decide_eq_true p1]; rfl)) fun _ => Ty.is (ty_op (ty_op (ty_cb (tya_cons (ty_op (ty_op (ty_var rfl) (ty_var rfl) (opt_mulW (bp.mul_ok s1 (by decide)))) ty_int opt_sub) tya_nil) cbt_intI) (ty_var rfl) (opt_mod (by omega))) ty_int opt_eqI) (by rw [inv_ok (by omega) i2]; rfl)) rfl) rfl) rfl) rfl))
end
section
variable {P : Program} {w : World} {K : PySem.W.Frag} {mg : Str → Option Value} {base : Heap}
/-! what the kernel reckons -/
def bOne (s : Nat) : Bool := decide (1 < s) && decide (((List.range (s - 2)).filter fun k => decide (s % (2 + k) = 0)).length = 0)
def isPn (n : Nat) : Bool := decide (2 ≤ n ∧ n ≤ 1000000) && decide (facN n = [(n, 1)])
theorem hv1 : decide (facN 999983 = [(999983, 1)]) = true := by decide +kernel
theorem hv2 : decide (facN 999981 = [(999981, 1)]) = false := by decide +kernel
theorem hv3 : ((List.range 400).all fun n => isPn n == bOne n) = true := by decide +kernel
def numb (a b c d e : Nat) : Nat := 2 ^ a * 3 ^ b * 5 ^ c * 13 ^ d * 997 ^ e
def natL (a b c d e : Nat) : List (Nat × Nat) := [(2, a), (3, b), (5, c), (13, d), (997, e)]
def allFive (f : Nat → Nat → Nat → Nat → Nat → Bool) : Bool := (List.range 3).all fun a => (List.range 3).all fun b => (List.range 3).all fun c => (List.range 3).all fun d => (List.range 3).all fun e => f a b c d e
theorem allFive_at {f : Nat → Nat → Nat → Nat → Nat → Bool} (h : allFive f = true) {a b c d e : Nat} (ha : a < 3) (hb : b < 3) (hc : c < 3) (hd : d < 3) (he : e < 3) : f a b c d e = true := by
  have m : ∀ {i : Nat}, i < 3 → i ∈ List.range 3 := fun h => List.mem_range.mpr h
  exact List.all_eq_true.mp (List.all_eq_true.mp (List.all_eq_true.mp (List.all_eq_true.mp (List.all_eq_true.mp h a (m ha)) b (m hb)) c (m hc)) d (m hd)) e (m he)
theorem hv4 : allFive (fun a b c d e => decide (facN (numb a b c d e) = (natL a b c d e).filter fun p => decide (0 < p.2))) = true := by decide +kernel
theorem hv5 : allFive (fun a b c d e => (natL a b c d e).all fun p => decide (powF 60 (numb a b c d e : Nat) (p.1 : Nat) = p.2) && decide (powF 60 (0 - (numb a b c d e : Nat)) (p.1 : Nat) = p.2)) = true := by decide +kernel
theorem hv6 : allFive (fun a b c d e => decide (1 ≤ numb a b c d e) && decide (numb a b c d e ≤ 1000000000000)) = true := by decide +kernel
theorem hv7 : ([2, 3, 5, 13, 997].all fun p => decide (facN p = [(p, 1)])) = true := by decide +kernel
theorem ty_listX {W : Wd} {Γ : Gam} {K : PySem.W.Frag} {te : TE} {n : Nat} {φ : Int → Prop} (h : TyL W Γ te (List.replicate n (inT K φ))) : Ty W Γ te (exT fun ns : List Int => gd (ns.length = n ∧ ∀ i ∈ ns, φ i) (dt K (linD ns))) := h.ty.sub fun v H _ z => by
  obtain ⟨a, xs, h1, h0, h2, h3⟩ := z
  obtain ⟨l, e, k⟩ := exT_list h3
  obtain ⟨k1, k2⟩ := gd_list k
  exact ⟨l, ⟨e, k1⟩, lstT_data (ds := l.map .int) ⟨a, xs, h1, h0, h2, by rw [List.map_map]; exact k2⟩⟩
theorem items_seq (b : Bool) (l : List Int) : itemsD (seqD b (l.map .int)) = l.map PyData.int := by cases b <;> rfl
theorem nums_seq (b : Bool) (l : List Int) : numsOk (seqD b (l.map .int)) = true := by
  unfold numsOk
  rw [items_seq, all_whole, Bool.and_true]
  cases b <;> rfl
theorem bNums_ok (b : Bool) (l : List Int) : bNums (seqD b (l.map .int)) = none := if_pos (nums_seq b l)
theorem ty_copyI {W : Wd} {Γ : Gam} {K : PySem.W.Frag} {te : TE} {tt : TT} {l : List Int} {b : Bool} (hc : Tt W Γ tt (· = b)) (h : Ty W Γ te (dt K (linD l))) : Ty W Γ (tIf tt (tCB (rTupOf K) (tCons te tNil)) (tCB (rLstOf K) (tCons te tNil))) (dt K (seqD b (l.map .int))) := by
  refine ty_if hc (fun z => ?_) fun z => ?_
  · subst z
    exact (ty_cb (tya_cons (h.sub fun _ _ _ => data_lstT (ds := l.map .int)) tya_nil) cbt_tupL).sub fun _ _ _ => tupT_data (ds := l.map .int)
  · subst z
    exact (tyl_cb (tya_cons (h.sub fun _ _ _ => data_lstT (ds := l.map .int)) tya_nil) cbl_lstL).data
theorem smOk_seq {n : Nat} {b : Bool} {l : List Int} (h : l.length ≤ 1000) : smOk (n + 2) (seqD b (l.map .int)) := by
  have z : (l.map PyData.int).length ≤ 1000 ∧ ∀ e ∈ l.map PyData.int, smOk (n + 1) e := ⟨by rw [List.length_map]; exact h, fun e he => by obtain ⟨p, _, rfl⟩ := List.mem_map.mp he; exact trivial⟩
  cases b <;> exact z
def facI (f v : Int) : Int := if absI' v < 10 ^ (30 : Int).toNat then v * f else v
theorem facI_bd {f v : Int} (hf : 0 ≤ f ∧ f ≤ 35) (hv : Intg v) : bd 400 (facI f v) := by
  have z : bd 140 (facI f v) := by
    have h : v.natAbs ≤ 2 ^ 132 := hv
    unfold facI
    show (if _ then _ else _ : Int).natAbs < 2 ^ 140
    split
    · rw [Int.natAbs_mul]
      have : v.natAbs * f.natAbs ≤ 2 ^ 132 * 35 := Nat.mul_le_mul h (by omega)
      omega
    · omega
  exact z.mono (by decide)
def sp_law_lists_right (K : PySem.W.Frag) : Sp := spT (fun _ : Bool => True) (fun b => [bx, dt K (.bool b)]) (fun _ => dt K (.bool true))
theorem ok_law_lists_right (T : Tx P K mg) : FnOk P w K mg base (L2.CX P w) 9 T.a_law_lists_right T.f_law_lists_right ["box", "named"] (sp_law_lists_right K) := by
  have G_law_take := ok_law_take (w := w) (base := base) T
  have G_law_integer := ok_law_integer (w := w) (base := base) T
  have G_law_call := ok_law_call (w := w) (base := base) T
  have G_law_same := ok_law_same (w := w) (base := base) T
  have G_law_all_common := ok_law_all_common (w := w) (base := base) T
  have G_law_multiple := ok_law_multiple (w := w) (base := base) T
  have nd := sc_law_lists_right.nd
  refine fn_ty T.F_law_lists_right sc_law_lists_right (fun x _ => rfl) fun cdv Ar outer s H E hr => ⟨_, (pss_cons (pset 2 nd (pe_ix (k_ix (K := K) rfl) (pe_lst (pa_cons pe_int (pa_cons pe_int (pa_cons pe_int (pa_cons pe_int pa_nil))))) (pcall G_law_take (hr.mono (by decide)) T.D_law_take (pa_cons (pv 0) (pa_cons pe_int pa_nil))) (fun _ _ => rfl)))
    (pss_cons (psetLc 3 [("turn", 4)] nd (pi_range1 rfl T.m_range (pa_cons (pcall G_law_take (hr.mono (by decide)) T.D_law_take (pa_cons (pv 0) (pa_cons pe_int pa_nil))) pa_nil)) (fun _ _ _ _ _ => (pgn 4 nd)) (fun _ _ _ _ _ => pts_nil) (fun _ _ _ _ _ => (pcall G_law_integer (hr.mono (by decide)) T.D_law_integer (pa_cons (pv 0) pa_nil))) (by kernel_rfl) (sw_true rfl rfl rfl (by kernel_rfl)))
    (pss_cons (psetLc 3 [("number", 5)] nd (k_ilist (K := K) rfl (pv 3)) (fun _ _ _ _ _ => (pgn 5 nd)) (fun _ _ _ _ _ => pts_nil) (fun _ _ _ _ _ => (pe_ifExp (pt_cmpR op_lt (bi_abs T.m_abs (pa_cons (pv 5) pa_nil)) (pe_op op_pow pe_int pe_int) (nomark _)) (pe_op op_mulA (pv 5) (pv 2)) (pv 5))) (by kernel_rfl) (sw_true rfl rfl rfl (by kernel_rfl)))
    (pss_cons (ps_par (i := 6) (j := 7) rfl nd rfl rfl (by decide) rfl rfl (pa_cons (pe_lst (pa_cons (pe_lst (pa_cons pe_str (pa_cons (pcall G_law_all_common (hr.mono (by decide)) T.D_law_all_common (pa_cons (pv 3) pa_nil)) pa_nil))) (pa_cons (pe_lst (pa_cons pe_str (pa_cons (pcall G_law_multiple (hr.mono (by decide)) T.D_law_multiple (pa_cons (pv 3) pa_nil)) pa_nil))) pa_nil))) (pa_cons (pe_ifExp (pt_val (pv 1)) (k_tuple (K := K) rfl T.m_tuple (pa_cons (pv 3) pa_nil)) (k_list (K := K) rfl T.m_list (pa_cons (pv 3) pa_nil))) pa_nil)) (by rfl))
    (pss_cons (pset 8 nd (pe_lst (pa_cons (pcall G_law_call (hr.mono (by decide)) T.D_law_call (pa_cons pe_str (pa_cons (pe_lst (pa_cons (pv 7) pa_nil)) (pa_cons (pv 1) pa_nil)))) (pa_cons (pcall G_law_call (hr.mono (by decide)) T.D_law_call (pa_cons pe_str (pa_cons (pe_lst (pa_cons (pv 7) pa_nil)) (pa_cons (pe_not (pv 1)) pa_nil)))) pa_nil))))
    (pss_one (ps_ret (pe_and (pcall G_law_same (hr.mono (by decide)) T.D_law_same (pa_cons (pv 8) (pa_cons (pv 6) pa_nil))) (pe_one (pcall G_law_same (hr.mono (by decide)) T.D_law_same (pa_cons (pv 7) (pa_cons (pe_ifExp (pt_val (pv 1)) (k_tuple (K := K) rfl T.m_tuple (pa_cons (pv 3) pa_nil)) (k_list (K := K) rfl T.m_list (pa_cons (pv 3) pa_nil))) pa_nil)))))))))))), fun W x hC => ?_⟩
  have dig : ∀ (W' : Wd) (Γ : Gam) (n : Nat), Γ[0]? = some (some bx) → 0 < n → n ≤ 1000000 → Ty W' Γ (tCall (sp_law_take K) [] E0 (tCons (tVar 0) (tCons (tC (.int (n : Nat))) tNil))) (digT K n) := fun W' Γ n h h0 h1 => ty_call n ⟨h0, h1⟩ (tya_cons (ty_var h) (tya_cons ty_int tya_nil))
  refine tys_seqE (tys_set (T := inT K fun i => 0 ≤ i ∧ i ≤ 35) (ty_pickX (n := 4) (tya_cons (ty_in ty_int (by decide)) (tya_cons (ty_in ty_int (by decide)) (tya_cons (ty_in ty_int (by decide)) (tya_cons (ty_in ty_int (by decide)) tya_nil)))) (dig _ _ 4 rfl (by decide) (by decide)) (by decide))) ?_
  refine TyS.openX (n := 2) rfl fun f => TyS.openG (n := 2) rfl fun hf => ?_
  show TyS W [some bx, some (dt K (.bool x)), some (dt K (.int f)), none, none, none, none, none, none] _ _ _ _ _
  refine tys_seqE (tys_set (T := exT fun ns : List Int => gd (ns.length ≤ 6 ∧ ∀ i ∈ ns, Intg i) (dt K (linD ns))) (ty_rngX (φ := fun n => n ≤ 6) ((dig _ _ 7 rfl (by decide) (by decide)).sub fun v H _ ⟨k, hk, z⟩ => ⟨k, by omega, z⟩) (fun n hn => by omega) fun n hn => ?_)) ?_
  · have h : TyL W [some bx, some (dt K (.bool x)), some (dt K (.int f)), none, none, none, none, none, none] (tLc (iItr n) (gName 4) tYes (tCall (sp_law_integer K) [] E0 (tCons (tVar 0) tNil)) [4]) ((List.range n).map fun _ => inT K Intg) := tyl_map (fun i : Nat => dt K (.int (i : Nat))) (fun _ => inT K Intg) tyi_itr (by rw [List.length_range]; omega) (by decide) fun W' i hi => ty_call () trivial (tya_cons (ty_var rfl) tya_nil)
    rw [map_const, List.length_range] at h
    exact (ty_listX h).sub fun v H _ ⟨l, ⟨k1, k2⟩, z⟩ => ⟨l, ⟨by omega, k2⟩, z⟩
  refine TyS.openX (n := 3) rfl fun ns => TyS.openG (n := 3) rfl fun hns => ?_
  obtain ⟨n1, n2⟩ := hns
  show TyS W [some bx, some (dt K (.bool x)), some (dt K (.int f)), some (dt K (linD ns)), none, none, none, none, none] _ _ _ _ _
  refine tys_seqE (tys_set (T := dt K (linD (ns.map (facI f)))) (Ty.is (ty_lstG (f := fun v : Int => .int (facI f v)) (xs := ns) (tyl_map (fun v : Int => dt K (.int v)) (fun v : Int => dt K (.int (facI f v))) (tyi_lstA (xs := ns) (f := PyData.int) (ty_var rfl)) (by omega) (by decide) fun W' v hv => ?_)) (by unfold linD; rw [List.map_map]; rfl))) ?_
  · have hv' : v.natAbs ≤ 2 ^ 132 := n2 v hv
    refine ty_if (φ := (· = decide (absI' v < 10 ^ (30 : Int).toNat))) (tt_test (ty_op (ty_cb (tya_cons (ty_var rfl) tya_nil) cbt_abs) (ty_op ty_int ty_int (opt_pow ⟨by decide, by decide, by decide⟩)) opt_lt)) (fun z => Ty.is (ty_op (ty_var rfl) (ty_var rfl) (opt_mul (.inr ⟨by have := hf.1; omega, by have := hf.2; omega⟩))) (by unfold facI; rw [if_pos (of_decide_eq_true z.symm)])) fun z => Ty.is (ty_var rfl) (by unfold facI; rw [if_neg (of_decide_eq_false z.symm)])
  have ml : (ns.map (facI f)).length ≤ 6 := by rw [List.length_map]; exact n1
  have mb : ∀ v ∈ ns.map (facI f), bd 400 v := fun v hv => by
    obtain ⟨u, hu, rfl⟩ := List.mem_map.mp hv
    exact facI_bd hf (n2 u hu)
  generalize ns.map (facI f) = ms at ml mb
  show TyS W [some bx, some (dt K (.bool x)), some (dt K (.int f)), some (dt K (linD ms)), none, none, none, none, none] _ _ _ _ _
  refine tys_seqE (tys_par (A := dt K (.list [.list [.str "told", .int (gcdL ms)], .list [.str "told", .int (lcmL ms)]])) (C := dt K (seqD x (ms.map .int))) (tya_cons (ty_l2 (ty_l2 ty_str (ty_call ms trivial (tya_cons (ty_var rfl) tya_nil))) (ty_l2 ty_str (ty_call ms ⟨by omega, mb⟩ (tya_cons (ty_var rfl) tya_nil)))) (tya_cons (ty_copyI (tt_B (ty_var rfl)) (ty_var rfl)) tya_nil))) ?_
  show TyS W [some bx, some (dt K (.bool x)), some (dt K (.int f)), some (dt K (linD ms)), none, none, some (dt K (.list [.list [.str "told", .int (gcdL ms)], .list [.str "told", .int (lcmL ms)]])), some (dt K (seqD x (ms.map .int))), none] _ _ _ _ _
  have il : (itemsD (seqD x (ms.map .int))).length ≤ 6 := by rw [items_seq, List.length_map]; exact ml
  refine tys_seqE (tys_set (ty_l2 (ty_lc2 (x := ⟨"common", [seqD x (ms.map .int)], x, "told", .int (gcdL ms)⟩) (.common _ _ _ (by omega) (by rw [bNums_ok, nsD_seq]; rfl)) (tya_cons ty_str (tya_cons (ty_l1 (ty_var rfl)) (tya_cons (ty_var rfl) tya_nil)))) (ty_lc2 (x := ⟨"multiple", [seqD x (ms.map .int)], !x, "told", .int (lcmL ms)⟩) (.multiple _ _ _ ⟨by omega, fun _ => by rw [nsD_seq]; exact mb⟩ (by rw [bNums_ok, nsD_seq]; rfl)) (tya_cons ty_str (tya_cons (ty_l1 (ty_var rfl)) (tya_cons (ty_notV (ty_var rfl)) tya_nil)))))) ?_
  exact TyS.never (tys_retW (Ty.is (ty_andV (a := true) (b := true) (ty_call (PyData.list [.list [.str "told", .int (gcdL ms)], .list [.str "told", .int (lcmL ms)]]) (smOk_two (n := 7) (smOk_told (n := 5) trivial (by decide)) (smOk_told (n := 5) trivial (by decide))) (tya_cons (ty_var rfl) (tya_cons (ty_var rfl) tya_nil))) fun _ => ty_call (seqD x (ms.map .int)) (smOk_seq (n := 6) (by omega)) (tya_cons (ty_var rfl) (tya_cons (ty_copyI (tt_B (ty_var rfl)) (ty_var rfl)) tya_nil))) rfl))
end
section
variable {P : Program} {w : World} {K : PySem.W.Frag} {mg : Str → Option Value} {base : Heap}
section
variable {W : Wd} {Γ : Gam} {K : PySem.W.Frag} {te ta tb : TE} {i j : Int}
theorem pairs_x {M B : Addr → Prop} {H : Hp} {n : Nat} : ∀ {ps : List Nat} {xs : List V}, TysV M B (ps.map fun p => tupT K [dt K (.int (p : Nat)), digT K n]) xs H → ∃ cs : List Nat, cs.length = ps.length ∧ (∀ c ∈ cs, c < n) ∧ RpA M K H xs ((ps.zip cs).map fun p => .tuple [.int (p.1 : Nat), .int (p.2 : Nat)])
  | [], [], _ => ⟨[], rfl, fun _ z => by simp at z, .nil⟩
  | p :: ps, x :: xs, h => by
    obtain ⟨⟨a, ys, rfl, h1, h2⟩, h3⟩ := h
    obtain ⟨cs, c1, c2, c3⟩ := pairs_x h3
    match ys, h2 with
    | [u, w], ⟨hu, ⟨k, hk, hw⟩, _⟩ =>
      exact ⟨k :: cs, by rw [List.length_cons, List.length_cons, c1], fun c hc => (List.mem_cons.mp hc).elim (fun z => by rw [z]; exact hk) (c2 c), .cons (.tup h1 (.cons hu (.cons hw .nil))) c3⟩
  | [], _ :: _, h => h.elim
  | _ :: _, [], h => h.elim
/-- dict(..) of pairs of which something is known -/
theorem ty_dictX {φ : List (Int × Int) → Prop} (hm : ∀ l, φ l → mergeK [] (pkK l) = pkK l) (h : Ty W Γ te (exT fun l : List (Int × Int) => gd (φ l) (dt K (.list (l.map fun p => .tuple [.int p.1, .int p.2]))))) : Ty W Γ (tCB (rDictP K) (tCons te tNil)) (exT fun l : List (Int × Int) => gd (φ l) (dt K (.dict (pkD l)))) := fun σ H c e Q q =>
  h σ H c e _ fun v H1 e1 ⟨l, hl, hv⟩ => by
    cases hv with
    | @lst a xs _ h1 h0 h2 =>
      obtain ⟨ps, rfl, k⟩ := pairs_rp h2
      refine ⟨a, ps, pkK l, rfl, SqL.of h1, k, fun p hp => ?_⟩
      rw [hm l hl]
      exact q _ _ (e1.trans (Ex.new hp)) ⟨l, hl, .dic upd_same (rpk l)⟩
/-- range(i, j) -/
theorem tyi_rng2 (ha : Ty W Γ ta (dt K (.int i))) (hb : Ty W Γ tb (dt K (.int j))) (h1 : -1000000000 ≤ i) (h2 : i ≤ 1000000000) (h3 : -1000000000 ≤ j) (h4 : j ≤ 1000000000) : TyI W Γ (iRng2 (tCons ta (tCons tb tNil))) ((List.range (j - i).toNat).map fun k => dt K (.int (i + (k : Nat)))) := fun σ H c g R q =>
  ha σ H c g _ fun u H1 e1 hu => hb σ H1 (c.up e1) (g.up e1.toW) _ fun v H2 e2 hv => by
    cases hu
    cases hv
    refine ⟨i, j, rfl, ⟨by omega, by omega, by omega, by omega⟩, q _ H2 (e1.trans e2) ⟨fun _ => True, YFn fun k => .int (i + k), by rw [List.length_map, List.length_range]; exact walk_range, True.intro, fun M' m => ⟨fun _ _ _ _ => True.intro, fun k Ha x Hb T hT f z y => ?_⟩⟩⟩
    obtain ⟨rfl, y⟩ := y
    obtain ⟨hl, rfl⟩ := range_map_get hT
    subst y
    exact ⟨Ex.refl _ _, .int _⟩
theorem opt_eqNilL {ds : List PyData} (h : ds.all isWholeD = true) : OpT W (rEqA K) (dt K (.list ds)) (dt K (.list [])) (dt K (.bool (decide (ds.length = 0)))) := by
  have z := opt_eqD (W := W) (K := K) (shaped_list h) (show SeqAt.shaped (.list []) = true from rfl)
  rw [eqv_nilL] at z
  exact z
end
def zL (l : List (Nat × Nat)) : List (Int × Int) := l.map fun p => ((p.1 : Int), (p.2 : Int))
theorem zL_merge (a b c d e : Nat) : mergeK [] (pkK (zL (natL a b c d e))) = pkK (zL (natL a b c d e)) := rfl
theorem zL_val (a b c d e : Nat) : ∀ q ∈ zL (natL a b c d e), valV (pkK (zL (natL a b c d e))) (.inl q.1) = some (.int q.2) := by
  intro q hq
  have hq' : q = (2, (a : Int)) ∨ q = (3, (b : Int)) ∨ q = (5, (c : Int)) ∨ q = (13, (d : Int)) ∨ q = (997, (e : Int)) := by simpa [zL, natL] using hq
  rcases hq' with rfl | rfl | rfl | rfl | rfl <;> rfl
theorem zL_prod (a b c d e : Nat) : prodI 1 (zL (natL a b c d e)) = ((numb a b c d e : Nat) : Int) := by
  show 1 * (2 : Int) ^ ((a : Int).toNat) * 3 ^ ((b : Int).toNat) * 5 ^ ((c : Int).toNat) * 13 ^ ((d : Int).toNat) * 997 ^ ((e : Int).toNat) = _
  simp only [Int.toNat_natCast, Int.one_mul]
  unfold numb
  push_cast
  rfl
theorem zL_pr (l : List (Nat × Nat)) : ((zL l).filter fun p => decide (0 < p.2)).map (fun p => PyData.tuple [.int p.1, .int p.2]) = (l.filter fun p => decide (0 < p.2)).map prD := by
  unfold zL
  rw [List.filter_map, List.map_map]
  have e : ((fun p : Int × Int => decide (0 < p.2)) ∘ fun p : Nat × Nat => ((p.1 : Int), (p.2 : Int))) = fun p : Nat × Nat => decide (0 < p.2) := by
    funext p
    exact decide_eq_decide.mpr (by show (0 : Int) < (p.2 : Nat) ↔ 0 < p.2; omega)
  rw [e]; rfl
theorem prime_five {p : Nat} (h : p ∈ [2, 3, 5, 13, 997]) : isPrimeD (.int (p : Nat)) = true := by
  have z := of_decide_eq_true (List.all_eq_true.mp hv7 p h)
  have h' : p = 2 ∨ p = 3 ∨ p = 5 ∨ p = 13 ∨ p = 997 := by simpa using h
  unfold isPrimeD
  rw [Bool.and_eq_true]
  refine ⟨?_, decide_eq_true z⟩
  show (decide _ && decide _) = true
  rw [Bool.and_eq_true]
  exact ⟨decide_eq_true (by rcases h' with rfl | rfl | rfl | rfl | rfl <;> decide), decide_eq_true (by rcases h' with rfl | rfl | rfl | rfl | rfl <;> decide)⟩
theorem prime_small {s : Nat} (h : s < 400) : isPrimeD (.int (s : Nat)) = bOne s := by
  have z := List.all_eq_true.mp hv3 s (List.mem_range.mpr h)
  have z' : isPn s = bOne s := by simpa using z
  rw [← z']
  unfold isPrimeD isPn
  have e1 : betD (.int (s : Nat)) 2 1000000 = decide (2 ≤ s ∧ s ≤ 1000000) := by
    show (decide _ && decide _) = _
    rw [← Bool.decide_and]
    exact decide_eq_decide.mpr (by omega)
  rw [e1]
  rfl
theorem prime_neg (s : Nat) : isPrimeD (.int (0 - (s : Nat))) = false := by
  unfold isPrimeD
  have e : betD (.int (0 - (s : Nat))) 2 1000000 = false := by
    show (decide _ && decide _) = false
    rw [decide_eq_false (by omega), Bool.false_and]
  rw [e, Bool.false_and]
theorem prime_a : isPrimeD (.int 999983) = true := by
  unfold isPrimeD
  rw [Bool.and_eq_true]
  exact ⟨rfl, hv1⟩
theorem prime_b : isPrimeD (.int 999981) = false := by
  unfold isPrimeD
  rw [show decide (facN (wI (.int 999981)).toNat = [((wI (.int 999981)).toNat, 1)]) = false from hv2, Bool.and_false]
theorem prime_c : isPrimeD (.int 1000003) = false := rfl
def valsL (s : Nat) : List PyData := [.int (s : Nat), .int (0 - (s : Nat)), .bool true, .none, .str "7", .tuple [.int 7], .int 999983, .int 999981, .int 1000003, .list [.int 7], .dict [(.str "a", .int 7)]]
theorem vals_due {s : Nat} (h : s < 400) : (valsL s).map (fun d => PyData.bool (isPrimeD d)) = [.bool (bOne s), .bool false, .bool false, .bool false, .bool false, .bool false, .bool true, .bool false, .bool false, .bool false, .bool false] := by
  show [PyData.bool (isPrimeD (.int (s : Nat))), PyData.bool (isPrimeD (.int (0 - (s : Nat)))), .bool (isPrimeD (.bool true)), .bool (isPrimeD .none), .bool (isPrimeD (.str "7")), .bool (isPrimeD (.tuple [.int 7])), .bool (isPrimeD (.int 999983)), .bool (isPrimeD (.int 999981)), .bool (isPrimeD (.int 1000003)), .bool (isPrimeD (.list [.int 7])), .bool (isPrimeD (.dict [(.str "a", .int 7)]))] = _
  rw [prime_small h, prime_neg, prime_a, prime_b, prime_c]
  rfl
def sp_law_primes_right (K : PySem.W.Frag) : Sp := spT (fun _ : Bool => True) (fun b => [bx, dt K (.bool b)]) (fun _ => dt K (.bool true))
theorem ok_law_primes_right (T : Tx P K mg) : FnOk P w K mg base (L2.CX P w) 9 T.a_law_primes_right T.f_law_primes_right ["box", "named"] (sp_law_primes_right K) := by
  have G_law_take := ok_law_take (w := w) (base := base) T
  have G_law_same := ok_law_same (w := w) (base := base) T
  have G_law_call := ok_law_call (w := w) (base := base) T
  have G_is_prime := ok_is_prime (w := w) (base := base) T
  have nd := sc_law_primes_right.nd
  refine fn_ty T.F_law_primes_right sc_law_primes_right (fun x _ => rfl) fun cdv Ar outer s H E hr => ⟨_, (pss_cons (pset 2 nd (k_dictP (K := K) rfl T.m_dict (pa_cons (plc [("prime", 3)] nd (k_ilist (K := K) rfl (pe_lst (pa_cons pe_int (pa_cons pe_int (pa_cons pe_int (pa_cons pe_int (pa_cons pe_int pa_nil))))))) (fun _ _ _ _ _ => (pgn 3 nd)) (fun _ _ _ _ _ => pts_nil) (fun _ _ _ _ _ => (pe_tup (pa_cons (pv 3) (pa_cons (pcall G_law_take (hr.mono (by decide)) T.D_law_take (pa_cons (pv 0) (pa_cons pe_int pa_nil))) pa_nil)))) (by kernel_rfl)) pa_nil)))
    (pss_cons (pset 4 nd pe_int)
    (pss_cons (ps_lock (ps_for PassesOwn.never rfl (pi_keys (pv 2)) (pgn 3 nd) (pss_one (ps_for PassesOwn.never rfl (pi_range1 rfl T.m_range (pa_cons (pe_dget (hu1 hr.units) (pv 2) (pv 3) (fun _ _ => rfl)) pa_nil)) (pgn 5 nd) (pss_one (pset 4 nd (pe_op op_mulA (pv 4) (pv 3))))))))
    (pss_cons (pset 6 nd (k_tuple (K := K) rfl T.m_tuple (pa_cons (plc [("prime", 3)] nd (k_ilist (K := K) rfl (k_sortD T.m_sorted (pa_cons (pv 2) pa_nil))) (fun _ _ _ _ _ => (pgn 3 nd)) (fun _ _ _ _ _ => (pts_one (pt_cmpR op_gt (pe_dget (hu1 hr.units) (pv 2) (pv 3) (fun _ _ => rfl)) pe_int (nomark _)))) (fun _ _ _ _ _ => (pe_tup (pa_cons (pv 3) (pa_cons (pe_dget (hu1 hr.units) (pv 2) (pv 3) (fun _ _ => rfl)) pa_nil)))) (by kernel_rfl)) pa_nil)))
    (pss_cons (pset 3 nd (pe_ix (k_ix (K := K) rfl) (k_sortD T.m_sorted (pa_cons (pv 2) pa_nil)) (pcall G_law_take (hr.mono (by decide)) T.D_law_take (pa_cons (pv 0) (pa_cons pe_int pa_nil))) (fun _ _ => rfl)))
    (pss_cons (pset 7 nd (pe_ifExp (pt_val (pv 1)) (pv 4) (pe_op op_sub pe_int (pv 4))))
    (pss_cons (pset 8 nd (pe_lst (pa_cons (pcall G_law_call (hr.mono (by decide)) T.D_law_call (pa_cons pe_str (pa_cons (pe_lst (pa_cons (pv 4) pa_nil)) (pa_cons (pv 1) pa_nil)))) (pa_cons (pcall G_law_call (hr.mono (by decide)) T.D_law_call (pa_cons pe_str (pa_cons (pe_lst (pa_cons (pv 7) (pa_cons (pv 3) pa_nil))) (pa_cons (pe_not (pv 1)) pa_nil)))) (pa_cons (pcall G_law_call (hr.mono (by decide)) T.D_law_call (pa_cons pe_str (pa_cons (pe_lst (pa_cons pe_int (pa_cons (pv 3) pa_nil))) (pa_cons (pv 1) pa_nil)))) pa_nil)))))
    (pss_cons (ps_if (pt_not (pt_val (pcall G_law_same (hr.mono (by decide)) T.D_law_same (pa_cons (pv 8) (pa_cons (pe_lst (pa_cons (pe_lst (pa_cons pe_str (pa_cons (pv 6) pa_nil))) (pa_cons (pe_lst (pa_cons pe_str (pa_cons (pe_dget (hu1 hr.units) (pv 2) (pv 3) (fun _ _ => rfl)) pa_nil))) (pa_cons (pe_lst (pa_cons pe_str (pa_cons pe_non pa_nil))) pa_nil)))) pa_nil))))) (pss_one (ps_ret pe_bl)) pss_nil)
    (pss_cons (pset 9 nd (pcall G_law_take (hr.mono (by decide)) T.D_law_take (pa_cons (pv 0) (pa_cons pe_int pa_nil))))
    (pss_cons (pset 10 nd (pe_and (pe_cmpR op_gt (pv 9) pe_int (nomark _)) (pe_one (pe_cmpR (k_eq (K := K) rfl hr.units) (plc [("k", 11)] nd (pi_range2 rfl T.m_range (pa_cons pe_int (pa_cons (pv 9) pa_nil))) (fun _ _ _ _ _ => (pgn 11 nd)) (fun _ _ _ _ _ => (pts_one (pt_cmpR (k_eq (K := K) rfl hr.units) (pe_op op_mod (bi_int T.m_int (pa_cons (pv 9) pa_nil)) (pv 11)) pe_int (nomark _)))) (fun _ _ _ _ _ => (pv 11)) (by kernel_rfl)) (pe_lst pa_nil) (nomark _)))))
    (pss_cons (pset 12 nd (pe_lst (pa_cons (pv 9) (pa_cons (pe_op op_sub pe_int (pv 9)) (pa_cons pe_bl (pa_cons pe_non (pa_cons pe_str (pa_cons (pe_tup (pa_cons pe_int pa_nil)) (pa_cons pe_int (pa_cons pe_int (pa_cons pe_int (pa_cons (pe_lst (pa_cons pe_int pa_nil)) (pa_cons (pe_disp (pps_cons pe_str pe_int pps_nil) rfl rfl (fun z => by cases z) (by decide)) pa_nil)))))))))))))
    (pss_cons (pset 13 nd (pe_lst (pa_cons (pv 10) (pa_cons pe_bl (pa_cons pe_bl (pa_cons pe_bl (pa_cons pe_bl (pa_cons pe_bl (pa_cons pe_bl (pa_cons pe_bl (pa_cons pe_bl (pa_cons pe_bl (pa_cons pe_bl pa_nil)))))))))))))
    (pss_one (ps_ret (pcall G_law_same (hr.mono (by decide)) T.D_law_same (pa_cons (plc [("value", 14)] nd (k_ilist (K := K) rfl (pv 12)) (fun _ _ _ _ _ => (pgn 14 nd)) (fun _ _ _ _ _ => pts_nil) (fun _ _ _ _ _ => (pe_ifExp (pt_val (pv 1)) (pcall G_is_prime (hr.mono (by decide)) T.D_is_prime (pa_cons (pv 14) pa_nil)) (pe_callKS G_is_prime (hr.mono (by decide)) rfl T.D_is_prime.g T.D_is_prime.k T.B_is_prime (fun _ => passE0) (pk_cons (pv 14) pk_nil)))) (by kernel_rfl)) (pa_cons (pv 13) pa_nil))))))))))))))))), fun W x hC => ?_⟩
  have dig : ∀ (W' : Wd) (Γ : Gam) (n : Nat), Γ[0]? = some (some bx) → 0 < n → n ≤ 1000000 → Ty W' Γ (tCall (sp_law_take K) [] E0 (tCons (tVar 0) (tCons (tC (.int (n : Nat))) tNil))) (digT K n) := fun W' Γ n h h0 h1 => ty_call n ⟨h0, h1⟩ (tya_cons (ty_var h) (tya_cons ty_int tya_nil))
  show TyS W [some bx, some (dt K (.bool x)), none, none, none, none, none, none, none, none, none, none, none, none, none] _ _ _ _ _
  let φ : List (Int × Int) → Prop := fun l => ∃ a b c d e : Nat, l = zL (natL a b c d e) ∧ a < 3 ∧ b < 3 ∧ c < 3 ∧ d < 3 ∧ e < 3
  refine tys_seqE (tys_set (T := exT fun l : List (Int × Int) => gd (φ l) (dt K (.dict (pkD l)))) (ty_dictX (φ := φ) (fun l ⟨a, b, c, d, e, hl, _⟩ => by rw [hl]; exact zL_merge ..) ?counts)) ?_
  case counts =>
    have hL : TyL W [some bx, some (dt K (.bool x)), none, none, none, none, none, none, none, none, none, none, none, none, none] (tLc (iList K (tLst (tCons (tC (V.int 2)) (tCons (tC (V.int 3)) (tCons (tC (V.int 5)) (tCons (tC (V.int 13)) (tCons (tC (V.int 997)) tNil))))))) (gName 3) tYes (tTup (tCons (tVar 3) (tCons (tCall (sp_law_take K) [] E0 (tCons (tVar 0) (tCons (tC (V.int 3)) tNil))) tNil))) [3]) (([2, 3, 5, 13, 997] : List Nat).map fun p => tupT K [dt K (.int (p : Nat)), digT K 3]) :=
      tyl_map (fun p : Nat => dt K (.int (p : Nat))) (fun p : Nat => tupT K [dt K (.int (p : Nat)), digT K 3]) (tyi_lstA (xs := ([2, 3, 5, 13, 997] : List Nat)) (f := fun p : Nat => .int (p : Nat)) (ty_lstD (ds := [.int 2, .int 3, .int 5, .int 13, .int 997]) (by tm_at "tyad") (by show 5 ≤ 1000000; decide))) (by show 5 ≤ 1000000; decide) (by decide) fun W' p hp => ty_tup (tya_cons (ty_var rfl) (tya_cons (dig _ _ 3 rfl (by decide) (by decide)) tya_nil)) (by show 2 ≤ 1000000; decide)
    refine hL.ty.sub fun v H _ z => ?_
    obtain ⟨p, xs, rfl, h0, h1, h2⟩ := z
    obtain ⟨cs, c1, c2, c3⟩ := pairs_x h2
    match cs, c1 with
    | [a, b, c, d, e], _ => exact ⟨zL (natL a b c d e), ⟨a, b, c, d, e, rfl, c2 a (by simp), c2 b (by simp), c2 c (by simp), c2 d (by simp), c2 e (by simp)⟩, .lst h1 h0 c3⟩
  refine TyS.openX (n := 2) rfl fun l => TyS.openG (n := 2) rfl fun hl => ?_
  obtain ⟨a, b, c, d, e, rfl, a3, b3, c3, d3, e3⟩ := hl
  have f4 := of_decide_eq_true (allFive_at hv4 a3 b3 c3 d3 e3)
  have f5 := allFive_at hv5 a3 b3 c3 d3 e3
  have f6 := allFive_at hv6 a3 b3 c3 d3 e3
  rw [Bool.and_eq_true, decide_eq_true_iff, decide_eq_true_iff] at f6
  have hv := zL_val a b c d e
  have hpr := zL_prod a b c d e
  have hkeys : (zL (natL a b c d e)).map (·.1) = [2, 3, 5, 13, 997] := rfl
  have hbds : ∀ q ∈ zL (natL a b c d e), 0 ≤ q.2 ∧ q.2 ≤ 1000 ∧ -(2 ^ 64) < q.1 ∧ q.1 < 2 ^ 64 := by
    intro q hq
    have hq' : q = (2, (a : Int)) ∨ q = (3, (b : Int)) ∨ q = (5, (c : Int)) ∨ q = (13, (d : Int)) ∨ q = (997, (e : Int)) := by simpa [zL, natL] using hq
    rcases hq' with rfl | rfl | rfl | rfl | rfl <;> exact ⟨by show (0 : Int) ≤ ((_ : Nat) : Int); omega, by show ((_ : Nat) : Int) ≤ 1000; omega, by show -(2 ^ 64) < _; omega, by show _ < (2 : Int) ^ 64; omega⟩
  have hpow : ∀ q ∈ natL a b c d e, powF 60 (numb a b c d e : Nat) (q.1 : Nat) = q.2 ∧ powF 60 (0 - (numb a b c d e : Nat)) (q.1 : Nat) = q.2 := fun q hq => by
    have z := List.all_eq_true.mp f5 q hq
    rw [Bool.and_eq_true, decide_eq_true_iff, decide_eq_true_iff] at z
    exact z
  have hfive : ∀ q ∈ natL a b c d e, q.1 ∈ [2, 3, 5, 13, 997] := fun q hq => by
    have hq' : q = (2, a) ∨ q = (3, b) ∨ q = (5, c) ∨ q = (13, d) ∨ q = (997, e) := by simpa [natL] using hq
    rcases hq' with rfl | rfl | rfl | rfl | rfl <;> simp
  have hlen : (natL a b c d e).length = 5 := rfl
  generalize natL a b c d e = nl at *
  generalize numb a b c d e = N at *
  refine tys_seqE (W' := W) (Γ' := [some bx, some (dt K (.bool x)), some (dt K (.dict (pkD (zL nl)))), none, some (dt K (.int 1)), none, none, none, none, none, none, none, none, none, none]) (tys_set ty_int) ?_
  refine tys_seqE (tys_dictFor (K := K) (c := 2) (n := 4) (p := 3) (t := 5) (l := zL nl) (n0 := 1) rfl rfl (by decide) (by decide) (by decide) (by decide) (by decide) (by decide) (by show 3 < 15; decide) hv hbds) ?_
  rw [hpr]
  show TyS W [some bx, some (dt K (.bool x)), some (dt K (.dict (pkD (zL nl)))), none, some (dt K (.int (N : Nat))), none, none, none, none, none, none, none, none, none, none] _ _ _ _ _
  have lenz : (zL nl).length = 5 := by unfold zL; rw [List.length_map]; exact hlen
  have srt : ∀ (Γ : Gam), Γ[2]? = some (some (dt K (.dict (pkD (zL nl))))) → Ty W Γ (tCB rSortD (tCons (tVar 2) tNil)) (dt K (.list (((zL nl).map (·.1)).map .int))) := fun Γ h => ty_sortD (by rw [lenz]; decide) (by rw [hkeys]; decide) (ty_var h)
  have hdue : facD (.int (N : Nat)) = .tuple (((zL nl).filter fun p => decide (0 < p.2)).map fun p => .tuple [.int p.1, .int p.2]) := by
    rw [zL_pr, ← f4]; rfl
  refine tys_seqE (tys_set (T := dt K (facD (.int (N : Nat)))) ?due) ?_
  case due =>
    rw [hdue]
    have hi : TyI W [some bx, some (dt K (.bool x)), some (dt K (.dict (pkD (zL nl)))), none, some (dt K (.int (N : Nat))), none, none, none, none, none, none, none, none, none, none] (iList K (tCB rSortD (tCons (tVar 2) tNil))) ((zL nl).map fun p => dt K (.int p.1)) := by
      have z := tyi_lstD (W := W) (K := K) (srt [some bx, some (dt K (.bool x)), some (dt K (.dict (pkD (zL nl)))), none, some (dt K (.int (N : Nat))), none, none, none, none, none, none, none, none, none, none] rfl)
      rw [List.map_map, List.map_map] at z
      exact z
    have hL : TyL W [some bx, some (dt K (.bool x)), some (dt K (.dict (pkD (zL nl)))), none, some (dt K (.int (N : Nat))), none, none, none, none, none, none, none, none, none, none] (tLc (iList K (tCB rSortD (tCons (tVar 2) tNil))) (gName 3) (tTest (tOp (rI0 fun i j => V.bl (decide (j < i))) (tDGet (tVar 2) (tVar 3)) (tC (V.int 0)))) (tTup (tCons (tVar 3) (tCons (tDGet (tVar 2) (tVar 3)) tNil))) [3]) (((zL nl).filter fun p => decide (0 < p.2)).map fun p => dt K (.tuple [.int p.1, .int p.2])) :=
      tyl_filter (fun p : Int × Int => dt K (.int p.1)) (fun p : Int × Int => dt K (.tuple [.int p.1, .int p.2])) (fun p => decide (0 < p.2)) hi (by rw [lenz]; decide) (by decide) fun W' p hp => ⟨tt_test (ty_op (ty_dget (hv p hp) (ty_var rfl) (ty_var rfl)) ty_int opt_gt), fun _ => ty_tupD (ds := [.int p.1, .int p.2]) (tya_cons (ty_var rfl) (tya_cons (ty_dget (hv p hp) (ty_var rfl) (ty_var rfl)) tya_nil)) (by show 2 ≤ 1000000; decide)⟩
    exact ty_tupG (f := fun p : Int × Int => .tuple [.int p.1, .int p.2]) (xs := (zL nl).filter fun p => decide (0 < p.2)) hL
  show TyS W [some bx, some (dt K (.bool x)), some (dt K (.dict (pkD (zL nl)))), none, some (dt K (.int (N : Nat))), none, some (dt K (facD (.int (N : Nat)))), none, none, none, none, none, none, none, none] _ _ _ _ _
  refine tys_seqE (tys_set (T := exT fun q : Nat × Nat => gd (q ∈ nl) (dt K (.int (q.1 : Nat)))) (any_sub (Ts := (zL nl).map fun p => dt K (.int p.1)) (ty_pick (n := 5) ((srt _ rfl).sub fun v H _ z => by have z2 := data_lstT z; rw [List.map_map, List.map_map] at z2; exact z2) (dig _ _ 5 rfl (by decide) (by decide)) (by rw [List.length_map, lenz]; exact Nat.le_refl _)) fun n hn v H z => ?_)) ?_
  · rw [List.length_map, lenz] at hn
    have hn' : n < nl.length := by rw [hlen]; exact hn
    refine ⟨nl[n], List.getElem_mem hn', ?_⟩
    unfold zL at z
    rw [List.getD_eq_getElem?_getD, List.map_map, List.getElem?_map, List.getElem?_eq_getElem hn'] at z
    exact z
  refine TyS.openX (n := 3) rfl fun q => TyS.openG (n := 3) rfl fun hq => ?_
  obtain ⟨pw1, pw2⟩ := hpow q hq
  have qf := hfive q hq
  have qp := prime_five qf
  have hvq : valV (pkK (zL nl)) (.inl (q.1 : Nat)) = some (.int (q.2 : Nat)) := hv ((q.1 : Int), (q.2 : Int)) (List.mem_map.mpr ⟨q, hq, rfl⟩)
  have Nz : ((N : Nat) : Int) ≠ 0 := by omega
  show TyS W [some bx, some (dt K (.bool x)), some (dt K (.dict (pkD (zL nl)))), some (dt K (.int (q.1 : Nat))), some (dt K (.int (N : Nat))), none, some (dt K (facD (.int (N : Nat)))), none, none, none, none, none, none, none, none] _ _ _ _ _
  refine tys_seqE (tys_set (T := exT fun s : Int => gd (s ≠ 0 ∧ s.natAbs < 2 ^ 60 ∧ powF 60 s (q.1 : Nat) = q.2) (dt K (.int s))) (ty_if (φ := (· = x)) (tt_B (ty_var rfl)) (fun _ => (ty_var rfl : Ty W _ _ (dt K (.int (N : Nat)))).sub fun v H _ z => ⟨_, ⟨Nz, by omega, pw1⟩, z⟩) fun _ => (ty_op ty_int (ty_var rfl) opt_sub : Ty W _ _ (dt K (.int (0 - (N : Nat))))).sub fun v H _ z => ⟨_, ⟨by omega, by omega, pw2⟩, z⟩)) ?_
  refine TyS.openX (n := 7) rfl fun s => TyS.openG (n := 7) rfl fun hs => ?_
  obtain ⟨s0, s1, s2⟩ := hs
  show TyS W [some bx, some (dt K (.bool x)), some (dt K (.dict (pkD (zL nl)))), some (dt K (.int (q.1 : Nat))), some (dt K (.int (N : Nat))), none, some (dt K (facD (.int (N : Nat)))), some (dt K (.int s)), none, none, none, none, none, none, none] _ _ _ _ _
  have v1 : valD (.int s) (.int (q.1 : Nat)) = .int (q.2 : Nat) := by
    unfold valD
    rw [if_neg (show ¬ wI (.int s) = 0 from s0)]
    show PyData.int ((powF 60 s (q.1 : Nat) : Nat) : Int) = _
    rw [s2]
  have v0 : valD (.int 0) (.int (q.1 : Nat)) = .none := rfl
  have bv : ∀ i : Int, bVal (.int i) (.int (q.1 : Nat)) = none := fun i => by
    unfold bVal
    rw [if_pos (show isWholeD (.int i) = true from rfl), if_pos qp]
  have bp : bPrimes (.int (N : Nat)) = none := if_pos (by
    show (decide _ && decide _) = true
    rw [Bool.and_eq_true]
    exact ⟨decide_eq_true (by omega), decide_eq_true (by omega)⟩)
  have dn : PyData.list [.list [.str "told", facD (.int (N : Nat))], .list [.str "told", .int (q.2 : Nat)], .list [.str "told", .none]] = PyData.list [.list [.str "told", facD (.int (N : Nat))], .list [.str "told", .int (q.2 : Nat)], .list [.str "told", .none]] := rfl
  have okD : smOk 8 (PyData.list [.list [.str "told", facD (.int (N : Nat))], .list [.str "told", .int (q.2 : Nat)], .list [.str "told", .none]]) := by
    have fok : smOk 6 (facD (.int (N : Nat))) := by
      rw [hdue]
      refine ⟨?_, fun y hy => ?_⟩
      · rw [List.length_map]
        exact Nat.le_trans (List.length_filter_le _ _) (by rw [lenz]; decide)
      · obtain ⟨p, _, rfl⟩ := List.mem_map.mp hy
        exact ⟨by show 2 ≤ 1000; decide, fun y hy => by
          have hy' : y = .int p.1 ∨ y = .int p.2 := by simpa using hy
          rcases hy' with rfl | rfl <;> exact trivial⟩
    refine ⟨by show 3 ≤ 1000; decide, fun y hy => ?_⟩
    have hy' : y = .list [.str "told", facD (.int (N : Nat))] ∨ y = .list [.str "told", .int (q.2 : Nat)] ∨ y = .list [.str "told", .none] := by simpa using hy
    rcases hy' with rfl | rfl | rfl
    · exact smOk_told (n := 5) fok (by decide)
    · exact smOk_told (n := 5) trivial (by decide)
    · exact smOk_told (n := 5) trivial (by decide)
  refine tys_seqE (tys_set (ty_l3 (ty_lc2 (x := ⟨"primes", [.int (N : Nat)], x, "told", facD (.int (N : Nat))⟩) (.primes _ _ _ (by rw [bp]; rfl)) (tya_cons ty_str (tya_cons (ty_l1 (ty_var rfl)) (tya_cons (ty_var rfl) tya_nil)))) (ty_lc2 (x := ⟨"valuation", [.int s, .int (q.1 : Nat)], !x, "told", .int (q.2 : Nat)⟩) (.valuation _ _ _ _ (fun _ => s1) (by rw [bv, v1]; rfl)) (tya_cons ty_str (tya_cons (ty_l2 (ty_var rfl) (ty_var rfl)) (tya_cons (ty_notV (ty_var rfl)) tya_nil)))) (ty_lc2 (x := ⟨"valuation", [.int 0, .int (q.1 : Nat)], x, "told", .none⟩) (.valuation _ _ _ _ (fun _ => by show (0 : Int).natAbs < 2 ^ 60; decide) (by rw [bv, v0]; rfl)) (tya_cons ty_str (tya_cons (ty_l2 ty_int (ty_var rfl)) (tya_cons (ty_var rfl) tya_nil)))))) ?_
  refine tys_guard (φ := (· = false)) (Tt.is (tt_notB (tt_B (ty_call (PyData.list [.list [.str "told", facD (.int (N : Nat))], .list [.str "told", .int (q.2 : Nat)], .list [.str "told", .none]]) okD (tya_cons (ty_var rfl) (tya_cons (ty_l3 (ty_l2 ty_str (ty_var rfl)) (ty_l2 ty_str (ty_dget hvq (ty_var rfl) (ty_var rfl))) (ty_l2 ty_str ty_non)) tya_nil))))) rfl) (fun z => Bool.noConfusion z) fun _ => ?_
  refine tys_seqE (tys_set (T := digT K 400) (dig _ _ 400 rfl (by decide) (by decide))) ?_
  refine TyS.openX (n := 9) rfl fun s => TyS.openG (n := 9) rfl fun hs => ?_
  refine TyS.less (Γ := [some bx, some (dt K (.bool x)), none, none, none, none, none, none, none, some (dt K (.int (s : Nat))), none, none, none, none, none]) ?_ (by exact ⟨fun _ _ _ _ h => h, fun _ _ _ _ h => h, fun _ _ _ _ h => h, True.intro⟩)
  refine tys_seqE (tys_set (T := dt K (.bool (bOne s))) (Ty.is (ty_andV (a := decide (1 < s)) (b := decide (((List.range (s - 2)).filter fun k => decide (s % (2 + k) = 0)).length = 0)) (Ty.is (ty_op (ty_var rfl) ty_int opt_gt) (congrArg PyData.bool (decide_eq_decide.mpr (by omega)))) fun h => ?_) rfl)) ?_
  · have s1 := of_decide_eq_true h
    have e2 : ((s : Nat) : Int) - 2 = ((s - 2 : Nat) : Int) := by omega
    have hi : TyI W [some bx, some (dt K (.bool x)), none, none, none, none, none, none, none, some (dt K (.int (s : Nat))), none, none, none, none, none] (iRng2 (tCons (tC (V.int 2)) (tCons (tVar 9) tNil))) ((List.range (s - 2)).map fun k => dt K (.int (2 + (k : Nat)))) := by
      have z := tyi_rng2 (W := W) (Γ := [some bx, some (dt K (.bool x)), none, none, none, none, none, none, none, some (dt K (.int (s : Nat))), none, none, none, none, none]) (K := K) (ta := tC (V.int 2)) (tb := tVar 9) (i := 2) (j := (s : Nat)) ty_int (ty_var rfl) (by omega) (by omega) (by omega) (by omega)
      rw [e2, Int.toNat_natCast] at z
      exact z
    refine Ty.is (ty_op (ty_lstG (f := fun k : Nat => .int (2 + (k : Nat))) (xs := (List.range (s - 2)).filter fun k => decide (s % (2 + k) = 0)) (tyl_filter (fun k : Nat => dt K (.int (2 + (k : Nat)))) (fun k : Nat => dt K (.int (2 + (k : Nat)))) (fun k => decide (s % (2 + k) = 0)) hi (by rw [List.length_range]; omega) (by decide) fun W' k hk => ⟨Tt.is (tt_test (ty_op (ty_op (ty_cb (tya_cons (ty_var rfl) tya_nil) cbt_intI) (ty_var rfl) (opt_mod (by omega))) ty_int opt_eqI)) (decide_eq_decide.mpr (by
      have e3 : (2 : Int) + (k : Nat) = ((2 + k : Nat) : Int) := by omega
      rw [e3]
      exact_mod_cast Iff.rfl)), fun _ => ty_var rfl⟩)) (ty_lstD (ds := []) tya_nil (by show 0 ≤ 1000000; decide)) (opt_eqNilL (by rw [List.all_map]; exact List.all_eq_true.mpr fun _ _ => rfl))) (by rw [List.length_map])
  show TyS W [some bx, some (dt K (.bool x)), none, none, none, none, none, none, none, some (dt K (.int (s : Nat))), some (dt K (.bool (bOne s))), none, none, none, none] _ _ _ _ _
  refine tys_seqE (tys_set (ty_lstD (ds := valsL s) (tya_cons (ty_var rfl) (tya_cons (ty_op ty_int (ty_var rfl) opt_sub) (tya_cons ty_bl (tya_cons ty_non (tya_cons ty_str (tya_cons (ty_tupD (ds := [.int 7]) (by tm_at "tyad") (by show 1 ≤ 1000000; decide)) (tya_cons ty_int (tya_cons ty_int (tya_cons ty_int (tya_cons (ty_l1 ty_int) (tya_cons (ty_disp1 ty_str ty_int) tya_nil))))))))))) (by show 11 ≤ 1000000; decide))) ?_
  refine tys_seqE (tys_set (ty_lstD (ds := [.bool (bOne s), .bool false, .bool false, .bool false, .bool false, .bool false, .bool true, .bool false, .bool false, .bool false, .bool false]) (tya_cons (ty_var rfl) (tya_cons ty_bl (tya_cons ty_bl (tya_cons ty_bl (tya_cons ty_bl (tya_cons ty_bl (tya_cons ty_bl (tya_cons ty_bl (tya_cons ty_bl (tya_cons ty_bl (tya_cons ty_bl tya_nil))))))))))) (by show 11 ≤ 1000000; decide))) ?_
  show TyS W [some bx, some (dt K (.bool x)), none, none, none, none, none, none, none, some (dt K (.int (s : Nat))), some (dt K (.bool (bOne s))), none, some (dt K (.list (valsL s))), some (dt K (.list [.bool (bOne s), .bool false, .bool false, .bool false, .bool false, .bool false, .bool true, .bool false, .bool false, .bool false, .bool false])), none] _ _ _ _ _
  have okV : smOk 8 (PyData.list [.bool (bOne s), .bool false, .bool false, .bool false, .bool false, .bool false, .bool true, .bool false, .bool false, .bool false, .bool false]) := ⟨by show 11 ≤ 1000; decide, fun y hy => by
    have hy' : ∃ b, y = PyData.bool b := by
      simp only [List.mem_cons, List.not_mem_nil, or_false] at hy
      rcases hy with h | h | h | h | h | h | h | h | h | h | h <;> exact ⟨_, h⟩
    obtain ⟨b, rfl⟩ := hy'
    exact trivial⟩
  refine TyS.never (tys_retW (ty_call (PyData.list [.bool (bOne s), .bool false, .bool false, .bool false, .bool false, .bool false, .bool true, .bool false, .bool false, .bool false, .bool false]) okV (tya_cons (Ty.is (ty_lstG (f := fun d : PyData => .bool (isPrimeD d)) (xs := valsL s) (tyl_map (dt K) (fun d => dt K (.bool (isPrimeD d))) (tyi_lstD (ty_var rfl)) (by show 11 ≤ 1000000; decide) (by decide) fun W' y hy => ty_if (φ := (· = x)) (tt_B (ty_var rfl)) (fun _ => ty_call y trivial (tya_cons (ty_var rfl) tya_nil)) fun _ => ty_callK0 y trivial (tya_cons (ty_var rfl) tya_nil) tysv_id)) (by rw [vals_due hs])) (tya_cons (ty_var rfl) tya_nil))))
end
section
variable {P : Program} {w : World} {K : PySem.W.Frag} {mg : Str → Option Value} {base : Heap}
structure Bad1 (d : PyData) : Prop where
  s : stOk 4 d
  n : isWholeD d = false
structure Bad2 (d : PyData) : Prop where
  s : stOk 4 d
  n : modOk d = false
  q : sq (wI d)
structure Bad3 (d : PyData) : Prop where
  s : stOk 4 d
  n : numsOk d = false
  l : (itemsD d).length ≤ 10
def badT (K : PySem.W.Frag) (φ : PyData → Prop) : Typ := exT fun d : PyData => gd (φ d) (dt K d)
def rowD (r : Str × List PyData × Str × PyData) : PyData := .list [.str r.1, .list r.2.1, .list [.str r.2.2.1, r.2.2.2]]
def RowOk (r : Str × List PyData × Str × PyData) : Prop := CallOk r.1 r.2.1 r.2.2.1 r.2.2.2 ∧ stOk 4 r.2.2.2
def rowsX (K : PySem.W.Frag) (n : Nat) : Typ := exT fun l : List (Str × List PyData × Str × PyData) => gd (l.length = n ∧ ∀ r ∈ l, RowOk r) (lstT (l.map fun r => dt K (rowD r)))
section
variable {W : Wd} {Γ : Gam} {K : PySem.W.Frag} {te tb : TE} {tl : TA} {n m : Nat}
theorem ty_bad {d : PyData} {φ : PyData → Prop} (h : Ty W Γ te (dt K d)) (hd : φ d) : Ty W Γ te (badT K φ) := h.sub fun v H _ z => ⟨d, hd, z⟩
theorem ty_badList {φ : PyData → Prop} (h : TyA W Γ tl (List.replicate n (badT K φ))) (hb : Ty W Γ tb (digT K n)) (hn : n ≤ 1000) : Ty W Γ (tOp (rIx K) (tLst tl) tb) (badT K φ) :=
  any_sub (Ts := List.replicate n (badT K φ)) (ty_pick (n := n) (tyl_lst h (by rw [List.length_replicate]; omega)).ty hb (by rw [List.length_replicate]; exact Nat.le_refl _)) fun k hk v H z => by rw [rep_getD (by simpa using hk)] at z; exact z
theorem ty_row {which tag : Str} {args : List PyData} {g : PyData} (hz : args.length ≤ 1000) (ha : TyA W Γ tl (args.map (dt K))) (hg : Ty W Γ te (dt K g)) :
    Ty W Γ (tLst (tCons (tC (.str which)) (tCons (tLst tl) (tCons (tLst (tCons (tC (.str tag)) (tCons te tNil))) tNil)))) (dt K (rowD (which, args, tag, g))) :=
  ty_lstD (ds := [.str which, .list args, .list [.str tag, g]]) (tya_cons ty_str (tya_cons (ty_lstD ha (by omega)) (tya_cons (ty_lstD (ds := [.str tag, g]) (tya_cons ty_str (tya_cons hg tya_nil)) (by show 2 ≤ 1000000; decide)) tya_nil))) (by show 3 ≤ 1000000; decide)
def RowsA (W : Wd) (Γ : Gam) (K : PySem.W.Frag) (tl : TA) (n : Nat) : Prop := ∃ l : List (Str × List PyData × Str × PyData), l.length = n ∧ (∀ r ∈ l, RowOk r) ∧ TyA W Γ tl (l.map fun r => dt K (rowD r))
theorem rows_nil : RowsA W Γ K tNil 0 := ⟨[], rfl, fun _ z => (List.not_mem_nil z).elim, tya_nil⟩
theorem rows_cons {which tag : Str} {args : List PyData} {g : PyData} {ta : TA} (hC : CallOk which args tag g) (hs : stOk 4 g) (hz : args.length ≤ 1000) (ha : TyA W Γ ta (args.map (dt K))) (hg : Ty W Γ te (dt K g)) (h : RowsA W Γ K tl n) :
    RowsA W Γ K (tCons (tLst (tCons (tC (.str which)) (tCons (tLst ta) (tCons (tLst (tCons (tC (.str tag)) (tCons te tNil))) tNil)))) tl) (n + 1) := by
  obtain ⟨l, h1, h2, h3⟩ := h
  refine ⟨(which, args, tag, g) :: l, by rw [List.length_cons, h1], fun r hr => ?_, tya_cons (ty_row hz ha hg) h3⟩
  rcases List.mem_cons.mp hr with rfl | hr
  · exact ⟨hC, hs⟩
  · exact h2 r hr
theorem ty_rowsL (h : RowsA W Γ K tl n) (hn : n ≤ 1000) : Ty W Γ (tLst tl) (rowsX K n) := by
  obtain ⟨l, h1, h2, h3⟩ := h
  exact (tyl_lst h3 (by rw [List.length_map]; omega)).ty.sub fun v H _ z => ⟨l, ⟨h1, h2⟩, z⟩
theorem ty_rowsC (h : Ty W Γ te (rowsX K n)) (k : Ty W Γ tb (rowsX K m)) (hn : n + m ≤ 1000) : Ty W Γ (tOp (rAddA K) te tb) (rowsX K (n + m)) :=
  ty_op h k fun u v H c ⟨l, hl, hu⟩ ⟨l', hl', hv⟩ Q q => opt_catL (Ts := l.map fun r => dt K (rowD r)) (Us := l'.map fun r => dt K (rowD r)) (by rw [List.length_map, List.length_map, hl.1, hl'.1]; omega) u v H c hu hv Q fun w H' e z => q w H' e ⟨l ++ l', ⟨by rw [List.length_append, hl.1, hl'.1], fun r hr => (List.mem_append.mp hr).elim (hl.2 r) (hl'.2 r)⟩, by rw [List.map_append]; exact z⟩
end
theorem bad_num {d : PyData} (h : Bad1 d) : bNum d = some (.num, d) := if_neg (bfalse h.n)
theorem bad_wI {d : PyData} (h : Bad1 d) : wI d = 0 := by
  have n := h.n
  cases d <;> first | rfl | cases n
theorem bad_sq {d : PyData} (h : Bad1 d) : sq (wI d) := by
  rw [bad_wI h]
  show (0 : Int).natAbs < 2 ^ 400
  exact Nat.two_pow_pos 400
theorem sq_small {i : Int} (h : i.natAbs < 2 ^ 100) : sq i := by
  have z : bd 100 i := h
  exact z.mono (by decide)
theorem bad_mod {d : PyData} (h : Bad2 d) : bMod d = some (.mod, d) := if_neg (bfalse h.n)
theorem bad_mod1 {d : PyData} (h : Bad2 d) : mod1 d = false := by
  have n := h.n
  cases d <;> first | rfl | skip
  rename_i i
  have z : ¬ (0 : Int) ≤ i := of_decide_eq_false n
  exact decide_eq_false (by omega)
theorem bad_nums {d : PyData} (h : Bad3 d) : bNums d = some (.nums, d) := if_neg (bfalse h.n)
theorem prime_no {d : PyData} (h : isPrimeD d = false) (i : Int) : bVal (.int i) d = some (.pri, d) := by
  unfold bVal
  rw [if_pos (show isWholeD (.int i) = true from rfl), if_neg (bfalse h)]
theorem invD_one (n : Int) : invD n 1 = .int 0 := by
  obtain ⟨x, y, _, _, e⟩ := invD_is (n := n) (m := 1)
  rw [e, Int.emod_one, if_pos (show gI 0 1 = 1 from rfl), Int.emod_one]
def valsP : List PyData := [.int 4, .int 1, .int 0, .int (-2), .bool true, .none, .str "2", .int 1000003]
theorem valsP_no : ∀ d ∈ valsP, isPrimeD d = false ∧ stOk 4 d := by
  intro d hd
  simp only [valsP, List.mem_cons, List.not_mem_nil, or_false] at hd
  rcases hd with rfl | rfl | rfl | rfl | rfl | rfl | rfl | rfl
  · exact ⟨by decide +kernel, trivial⟩
  · exact ⟨rfl, trivial⟩
  · exact ⟨rfl, trivial⟩
  · exact ⟨rfl, trivial⟩
  · exact ⟨rfl, trivial⟩
  · exact ⟨rfl, trivial⟩
  · exact ⟨rfl, by show _ ≤ 1000; decide⟩
  · exact ⟨rfl, trivial⟩
def sp_law_refused_right (K : PySem.W.Frag) : Sp := spT (fun _ : Bool => True) (fun b => [bx, dt K (.bool b)]) (fun _ => dt K (.bool true))
theorem ok_law_refused_right (T : Tx P K mg) : FnOk P w K mg base (L2.CX P w) 13 T.a_law_refused_right T.f_law_refused_right ["box", "named"] (sp_law_refused_right K) := by
  have G_law_integer := ok_law_integer (w := w) (base := base) T
  have G_law_same := ok_law_same (w := w) (base := base) T
  have G_law_take := ok_law_take (w := w) (base := base) T
  have G_law_call := ok_law_call (w := w) (base := base) T
  have G_law_still := ok_law_still (w := w) (base := base) T
  have nd := sc_law_refused_right.nd
  refine fn_ty T.F_law_refused_right sc_law_refused_right (fun x _ => rfl) fun cdv Ar outer s H E hr => ⟨_, (pss_cons (pset 2 nd (pe_ix (k_ix (K := K) rfl) (pe_lst (pa_cons pe_non (pa_cons pe_bl (pa_cons pe_bl (pa_cons pe_str (pa_cons (pe_tup (pa_cons pe_int pa_nil)) (pa_cons (pe_lst (pa_cons pe_int pa_nil)) (pa_cons (pe_disp (pps_cons pe_str pe_int pps_nil) rfl rfl (fun z => by cases z) (by decide)) pa_nil)))))))) (pcall G_law_take (hr.mono (by decide)) T.D_law_take (pa_cons (pv 0) (pa_cons pe_int pa_nil))) (fun _ _ => rfl)))
    (pss_cons (pset 3 nd (pcall G_law_integer (hr.mono (by decide)) T.D_law_integer (pa_cons (pv 0) pa_nil)))
    (pss_cons (pset 4 nd (pe_ix (k_ix (K := K) rfl) (pe_lst (pa_cons pe_non (pa_cons pe_bl (pa_cons pe_str (pa_cons (pe_tup (pa_cons pe_int pa_nil)) (pa_cons (pe_un un_neg pe_int) (pa_cons (pe_op op_sub pe_int (pe_op op_pow pe_int pe_int)) pa_nil))))))) (pcall G_law_take (hr.mono (by decide)) T.D_law_take (pa_cons (pv 0) (pa_cons pe_int pa_nil))) (fun _ _ => rfl)))
    (pss_cons (pset 5 nd (pe_ix (k_ix (K := K) rfl) (pe_lst (pa_cons (pe_lst (pa_cons pe_int (pa_cons pe_non pa_nil))) (pa_cons (pe_tup (pa_cons pe_bl pa_nil)) (pa_cons pe_int (pa_cons pe_str (pa_cons (pe_disp (pps_cons pe_str pe_int pps_nil) rfl rfl (fun z => by cases z) (by decide)) (pa_cons pe_non (pa_cons (pe_lst (pa_cons pe_int (pa_cons pe_str pa_nil))) (pa_cons (pe_lst (pa_cons pe_int (pa_cons (pe_tup (pa_cons pe_int pa_nil)) pa_nil))) pa_nil))))))))) (pcall G_law_take (hr.mono (by decide)) T.D_law_take (pa_cons (pv 0) (pa_cons pe_int pa_nil))) (fun _ _ => rfl)))
    (pss_cons (pset 6 nd (pe_lst (pa_cons (pe_lst (pa_cons pe_str (pa_cons (pe_lst (pa_cons (pv 2) (pa_cons (pv 4) pa_nil))) (pa_cons (pe_lst (pa_cons pe_str (pa_cons (pv 2) pa_nil))) pa_nil)))) (pa_cons (pe_lst (pa_cons pe_str (pa_cons (pe_lst (pa_cons (pv 3) (pa_cons (pv 4) pa_nil))) (pa_cons (pe_lst (pa_cons pe_str (pa_cons (pv 4) pa_nil))) pa_nil)))) (pa_cons (pe_lst (pa_cons pe_str (pa_cons (pe_lst (pa_cons (pv 2) (pa_cons (pv 2) (pa_cons (pv 4) pa_nil)))) (pa_cons (pe_lst (pa_cons pe_str (pa_cons (pv 2) pa_nil))) pa_nil)))) pa_nil)))))
    (pss_cons (pset 6 nd (pe_op (k_add (K := K) rfl) (pv 6) (pe_lst (pa_cons (pe_lst (pa_cons pe_str (pa_cons (pe_lst (pa_cons (pv 3) (pa_cons (pv 2) (pa_cons (pv 4) pa_nil)))) (pa_cons (pe_lst (pa_cons pe_str (pa_cons (pv 2) pa_nil))) pa_nil)))) pa_nil))))
    (pss_cons (pset 6 nd (pe_op (k_add (K := K) rfl) (pv 6) (pe_lst (pa_cons (pe_lst (pa_cons pe_str (pa_cons (pe_lst (pa_cons (pv 3) (pa_cons (pv 3) (pa_cons (pv 4) pa_nil)))) (pa_cons (pe_lst (pa_cons pe_str (pa_cons (pv 4) pa_nil))) pa_nil)))) (pa_cons (pe_lst (pa_cons pe_str (pa_cons (pe_lst (pa_cons (pv 5) pa_nil)) (pa_cons (pe_lst (pa_cons pe_str (pa_cons (pv 5) pa_nil))) pa_nil)))) (pa_cons (pe_lst (pa_cons pe_str (pa_cons (pe_lst (pa_cons (pv 5) pa_nil)) (pa_cons (pe_lst (pa_cons pe_str (pa_cons (pv 5) pa_nil))) pa_nil)))) pa_nil))))))
    (pss_cons (pset 6 nd (pe_op (k_add (K := K) rfl) (pv 6) (pe_lst (pa_cons (pe_lst (pa_cons pe_str (pa_cons (pe_lst (pa_cons (pv 2) (pa_cons (pv 2) pa_nil))) (pa_cons (pe_lst (pa_cons pe_str (pa_cons (pv 2) pa_nil))) pa_nil)))) pa_nil))))
    (pss_cons (pset 6 nd (pe_op (k_add (K := K) rfl) (pv 6) (pe_lst (pa_cons (pe_lst (pa_cons pe_str (pa_cons (pe_lst (pa_cons (pv 3) (pa_cons (pv 2) pa_nil))) (pa_cons (pe_lst (pa_cons pe_str (pa_cons (pv 2) pa_nil))) pa_nil)))) (pa_cons (pe_lst (pa_cons pe_str (pa_cons (pe_lst (pa_cons (pv 2) (pa_cons pe_int pa_nil))) (pa_cons (pe_lst (pa_cons pe_str (pa_cons (pv 2) pa_nil))) pa_nil)))) (pa_cons (pe_lst (pa_cons pe_str (pa_cons (pe_lst (pa_cons (pv 3) (pa_cons pe_int pa_nil))) (pa_cons (pe_lst (pa_cons pe_str (pa_cons pe_int pa_nil))) pa_nil)))) (pa_cons (pe_lst (pa_cons pe_str (pa_cons (pe_lst (pa_cons (pv 3) (pa_cons (pv 4) pa_nil))) (pa_cons (pe_lst (pa_cons pe_str (pa_cons (pv 4) pa_nil))) pa_nil)))) pa_nil)))))))
    (pss_cons (pset 6 nd (pe_op (k_add (K := K) rfl) (pv 6) (pe_lst (pa_cons (pe_lst (pa_cons pe_str (pa_cons (pe_lst (pa_cons (pv 2) pa_nil)) (pa_cons (pe_lst (pa_cons pe_str (pa_cons (pv 2) pa_nil))) pa_nil)))) (pa_cons (pe_lst (pa_cons pe_str (pa_cons (pe_lst (pa_cons pe_int pa_nil)) (pa_cons (pe_lst (pa_cons pe_str (pa_cons pe_int pa_nil))) pa_nil)))) (pa_cons (pe_lst (pa_cons pe_str (pa_cons (pe_lst (pa_cons (pe_un un_neg pe_int) pa_nil)) (pa_cons (pe_lst (pa_cons pe_str (pa_cons (pe_un un_neg pe_int) pa_nil))) pa_nil)))) pa_nil))))))
    (pss_cons (pset 6 nd (pe_op (k_add (K := K) rfl) (pv 6) (pe_lst (pa_cons (pe_lst (pa_cons pe_str (pa_cons (pe_lst (pa_cons (pe_op (k_add (K := K) rfl) (pe_op op_pow pe_int pe_int) pe_int) pa_nil)) (pa_cons (pe_lst (pa_cons pe_str (pa_cons (pe_op (k_add (K := K) rfl) (pe_op op_pow pe_int pe_int) pe_int) pa_nil))) pa_nil)))) (pa_cons (pe_lst (pa_cons pe_str (pa_cons (pe_lst (pa_cons (pv 2) (pa_cons pe_int pa_nil))) (pa_cons (pe_lst (pa_cons pe_str (pa_cons (pv 2) pa_nil))) pa_nil)))) pa_nil)))))
    (pss_cons (pset 6 nd (pe_op (k_add (K := K) rfl) (pv 6) (plc [("value", 7)] nd (k_ilist (K := K) rfl (pe_lst (pa_cons pe_int (pa_cons pe_int (pa_cons pe_int (pa_cons (pe_un un_neg pe_int) (pa_cons pe_bl (pa_cons pe_non (pa_cons pe_str (pa_cons pe_int pa_nil)))))))))) (fun _ _ _ _ _ => (pgn 7 nd)) (fun _ _ _ _ _ => pts_nil) (fun _ _ _ _ _ => (pe_lst (pa_cons pe_str (pa_cons (pe_lst (pa_cons (pv 3) (pa_cons (pv 7) pa_nil))) (pa_cons (pe_lst (pa_cons pe_str (pa_cons (pv 7) pa_nil))) pa_nil))))) (by kernel_rfl))))
    (pss_cons (ps_for PassesOwn.never rfl (k_ilist (K := K) rfl (pv 6)) (k_gunl (K := K) (n := 3) rfl (pgs_cons (pgn 8 nd) (pgs_cons (pgn 9 nd) (pgs_cons (pgn 10 nd) pgs_nil)))) (pss_cons (pset 11 nd (pcall G_law_call (hr.mono (by decide)) T.D_law_call (pa_cons (pv 8) (pa_cons (pv 9) (pa_cons (pv 1) pa_nil)))))
    (pss_cons (ps_if (PW.pt (pw_or (pt_cmpR (k_ne (K := K) rfl hr.units) (k_len (K := K) rfl T.m_len (pa_cons (pv 11) pa_nil)) pe_int (nomark _)) (pw_or (pt_cmpR (k_ne (K := K) rfl hr.units) (pe_ix (k_ix (K := K) rfl) (pv 11) pe_int (fun _ _ => rfl)) (pe_ix (k_ix (K := K) rfl) (pv 10) pe_int (fun _ _ => rfl)) (nomark _)) (pw_or1 (pt_not (pt_val (pcall G_law_still (hr.mono (by decide)) T.D_law_still (pa_cons (pe_ix (k_ix (K := K) rfl) (pv 11) pe_int (fun _ _ => rfl)) (pa_cons (pe_ix (k_ix (K := K) rfl) (pv 10) pe_int (fun _ _ => rfl)) pa_nil))))))))) (pss_one (ps_ret pe_bl)) pss_nil)
    (pss_one (pset 1 nd (pe_not (pv 1)))))))
    (pss_one (ps_ret (pcall G_law_same (hr.mono (by decide)) T.D_law_same (pa_cons (pe_lst (pa_cons (pcall G_law_call (hr.mono (by decide)) T.D_law_call (pa_cons pe_str (pa_cons (pe_lst (pa_cons (pv 3) (pa_cons pe_int pa_nil))) (pa_cons (pv 1) pa_nil)))) (pa_cons (pcall G_law_call (hr.mono (by decide)) T.D_law_call (pa_cons pe_str (pa_cons (pe_lst (pa_cons pe_int pa_nil)) (pa_cons (pv 1) pa_nil)))) pa_nil))) (pa_cons (pe_lst (pa_cons (pe_lst (pa_cons pe_str (pa_cons pe_int pa_nil))) (pa_cons (pe_lst (pa_cons pe_str (pa_cons (pe_tup pa_nil) pa_nil))) pa_nil))) pa_nil)))))))))))))))))), fun W x hC => ?_⟩
  have dig : ∀ (W' : Wd) (Γ : Gam) (n : Nat), Γ[0]? = some (some bx) → 0 < n → n ≤ 1000000 → Ty W' Γ (tCall (sp_law_take K) [] E0 (tCons (tVar 0) (tCons (tC (.int (n : Nat))) tNil))) (digT K n) := fun W' Γ n h h0 h1 => ty_call n ⟨h0, h1⟩ (tya_cons (ty_var h) (tya_cons ty_int tya_nil))
  show TyS W [some bx, some (dt K (.bool x)), none, none, none, none, none, none, none, none, none, none] _ _ _ _ _
  refine tys_seqE (tys_set (T := badT K Bad1) (ty_badList (n := 7) (
    tya_cons (ty_bad ty_non ⟨trivial, rfl⟩) (
    tya_cons (ty_bad (ty_bl (b := true)) ⟨trivial, rfl⟩) (
    tya_cons (ty_bad (ty_bl (b := false)) ⟨trivial, rfl⟩) (
    tya_cons (ty_bad (ty_str (x := "3")) ⟨by show _ ≤ 1000; decide, rfl⟩) (
    tya_cons (ty_bad (ty_tupD (ds := [.int 3]) (by tm_at "tyad") (by show 1 ≤ 1000000; decide)) ⟨by simp [stOk], rfl⟩) (
    tya_cons (ty_bad (ty_l1 (ty_int (n := 3))) ⟨by simp [stOk], rfl⟩) (
    tya_cons (ty_bad (ty_disp1 ty_str ty_int) ⟨⟨by decide, _, _, rfl⟩, rfl⟩) tya_nil))))))) (dig _ _ 7 rfl (by decide) (by decide)) (by decide))) ?_
  refine TyS.openX (n := 2) rfl fun bad => TyS.openG (n := 2) rfl fun hb => ?_
  show TyS W [some bx, some (dt K (.bool x)), some (dt K bad), none, none, none, none, none, none, none, none, none] _ _ _ _ _
  refine tys_seqE (tys_set (T := inT K Intg) (ty_call () trivial (tya_cons (ty_var rfl) tya_nil))) ?_
  refine TyS.openX (n := 3) rfl fun good => TyS.openG (n := 3) rfl fun hg => ?_
  have hg : Intg good := hg
  show TyS W [some bx, some (dt K (.bool x)), some (dt K bad), some (dt K (.int good)), none, none, none, none, none, none, none, none] _ _ _ _ _
  refine tys_seqE (tys_set (T := badT K Bad2) (ty_badList (n := 6) (
    tya_cons (ty_bad ty_non ⟨trivial, rfl, sq_small (by decide)⟩) (
    tya_cons (ty_bad (ty_bl (b := true)) ⟨trivial, rfl, sq_small (by decide)⟩) (
    tya_cons (ty_bad (ty_str (x := "2")) ⟨by show _ ≤ 1000; decide, rfl, sq_small (by decide)⟩) (
    tya_cons (ty_bad (ty_tupD (ds := [.int 2]) (by tm_at "tyad") (by show 1 ≤ 1000000; decide)) ⟨by simp [stOk], rfl, sq_small (by decide)⟩) (
    tya_cons (ty_bad (ty_un (ty_int (n := 1)) unt_neg) ⟨trivial, rfl, sq_small (by decide)⟩) (
    tya_cons (ty_bad (ty_op ty_int (ty_op ty_int ty_int (opt_pow ⟨by decide, by decide, by decide⟩)) opt_sub) ⟨trivial, by decide +kernel, sq_small (by decide +kernel)⟩) tya_nil)))))) (dig _ _ 6 rfl (by decide) (by decide)) (by decide))) ?_
  refine TyS.openX (n := 4) rfl fun wrong => TyS.openG (n := 4) rfl fun hw => ?_
  show TyS W [some bx, some (dt K (.bool x)), some (dt K bad), some (dt K (.int good)), some (dt K wrong), none, none, none, none, none, none, none] _ _ _ _ _
  refine tys_seqE (tys_set (T := badT K Bad3) (ty_badList (n := 8) (
    tya_cons (ty_bad (ty_l2 (ty_int (n := 1)) ty_non) ⟨by simp [stOk], rfl, by decide⟩) (
    tya_cons (ty_bad (ty_tupD (ds := [.bool true]) (by tm_at "tyad") (by show 1 ≤ 1000000; decide)) ⟨by simp [stOk], rfl, by decide⟩) (
    tya_cons (ty_bad (ty_int (n := 7)) ⟨trivial, rfl, by decide⟩) (
    tya_cons (ty_bad (ty_str (x := "12")) ⟨by show _ ≤ 1000; decide, rfl, by decide⟩) (
    tya_cons (ty_bad (ty_disp1 ty_str ty_int) ⟨⟨by decide, _, _, rfl⟩, rfl, by show 0 ≤ 10; decide⟩) (
    tya_cons (ty_bad ty_non ⟨trivial, rfl, by decide⟩) (
    tya_cons (ty_bad (ty_l2 (ty_int (n := 3)) (ty_str (x := "3"))) ⟨by simp [stOk]; decide, rfl, by decide⟩) (
    tya_cons (ty_bad (ty_l2 (ty_int (n := 1)) (ty_tupD (ds := [.int 2]) (by tm_at "tyad") (by show 1 ≤ 1000000; decide))) ⟨by simp [stOk], rfl, by decide⟩) tya_nil)))))))) (dig _ _ 8 rfl (by decide) (by decide)) (by decide))) ?_
  refine TyS.openX (n := 5) rfl fun nums => TyS.openG (n := 5) rfl fun hn => ?_
  show TyS W [some bx, some (dt K (.bool x)), some (dt K bad), some (dt K (.int good)), some (dt K wrong), some (dt K nums), none, none, none, none, none, none] _ _ _ _ _
  have sg := hg.sq
  have sb := bad_sq hb
  have gw : isWholeD (.int good) = true := rfl
  have two1 : ∀ (b : PyData) (r : Option (Cls × PyData)), bTwo bad b r = some (.num, bad) := fun b r => if_neg (bfalse hb.n)
  have two2 : ∀ (r : Option (Cls × PyData)), bTwo (.int good) bad r = some (.num, bad) := fun r => (if_pos gw).trans (if_neg (bfalse hb.n))
  have rb : ∀ b, bRest bad b = some (.num, bad) := fun b => if_neg (bfalse hb.n)
  have rg : bRest (.int good) wrong = some (.mod, wrong) := (if_pos gw).trans (bad_mod hw)
  have ib : ∀ b, bInv bad b = some (.num, bad) := fun b => if_neg (bfalse hb.n)
  have ig : bInv (.int good) wrong = some (.mod, wrong) := (if_pos gw).trans (if_neg (bfalse (bad_mod1 hw)))
  have s0 : sq 0 := sq_small (by decide)
  have pb : bPrimes bad = some (.num, bad) := if_neg (fun z => by
    have n := hb.n
    cases bad <;> first | exact Bool.noConfusion z | cases n)
  have vb : bVal bad (.int 4) = some (.num, bad) := if_neg (bfalse hb.n)
  refine tys_seqE (tys_set (T := rowsX K 3) (ty_rowsL (rows_cons (args := [bad, wrong]) (.rest _ _ _ _ (by rw [rb]; rfl)) hb.s (by show 2 ≤ 1000; decide) (tya_cons (ty_var rfl) (tya_cons (ty_var rfl) tya_nil)) (ty_var rfl) (
    rows_cons (args := [.int good, wrong]) (.rest _ _ _ _ (by rw [rg]; rfl)) hw.s (by show 2 ≤ 1000; decide) (tya_cons (ty_var rfl) (tya_cons (ty_var rfl) tya_nil)) (ty_var rfl) (
    rows_cons (args := [bad, bad, wrong]) (.same _ _ _ _ _ (by rw [two1]; rfl)) hb.s (by show 3 ≤ 1000; decide) (tya_cons (ty_var rfl) (tya_cons (ty_var rfl) (tya_cons (ty_var rfl) tya_nil))) (ty_var rfl) rows_nil))) (by decide))) ?_
  show TyS W [some bx, some (dt K (.bool x)), some (dt K bad), some (dt K (.int good)), some (dt K wrong), some (dt K nums), some (rowsX K 3), none, none, none, none, none] _ _ _ _ _
  refine tys_seqE (tys_set (T := rowsX K 4) (ty_rowsC (n := 3) (m := 1) (ty_var rfl) (ty_rowsL (rows_cons (args := [.int good, bad, wrong]) (.same _ _ _ _ _ (by rw [two2]; rfl)) hb.s (by show 3 ≤ 1000; decide) (tya_cons (ty_var rfl) (tya_cons (ty_var rfl) (tya_cons (ty_var rfl) tya_nil))) (ty_var rfl) rows_nil) (by decide)) (by decide))) ?_
  show TyS W [some bx, some (dt K (.bool x)), some (dt K bad), some (dt K (.int good)), some (dt K wrong), some (dt K nums), some (rowsX K 4), none, none, none, none, none] _ _ _ _ _
  refine tys_seqE (tys_set (T := rowsX K 7) (ty_rowsC (n := 4) (m := 3) (ty_var rfl) (ty_rowsL (
    rows_cons (args := [.int good, .int good, wrong]) (.same _ _ _ _ _ (by rw [show bTwo (.int good) (.int good) (bMod wrong) = some (.mod, wrong) from (if_pos gw).trans ((if_pos gw).trans (bad_mod hw))]; rfl)) hw.s (by show 3 ≤ 1000; decide) (tya_cons (ty_var rfl) (tya_cons (ty_var rfl) (tya_cons (ty_var rfl) tya_nil))) (ty_var rfl) (
    rows_cons (args := [nums]) (.common _ _ _ (by have := hn.l; omega) (by rw [bad_nums hn]; rfl)) hn.s (by show 1 ≤ 1000; decide) (tya_cons (ty_var rfl) tya_nil) (ty_var rfl) (
    rows_cons (args := [nums]) (.multiple _ _ _ ⟨hn.l, fun z => (bfalse hn.n z).elim⟩ (by rw [bad_nums hn]; rfl)) hn.s (by show 1 ≤ 1000; decide) (tya_cons (ty_var rfl) tya_nil) (ty_var rfl) rows_nil))) (by decide)) (by decide))) ?_
  show TyS W [some bx, some (dt K (.bool x)), some (dt K bad), some (dt K (.int good)), some (dt K wrong), some (dt K nums), some (rowsX K 7), none, none, none, none, none] _ _ _ _ _
  refine tys_seqE (tys_set (T := rowsX K 8) (ty_rowsC (n := 7) (m := 1) (ty_var rfl) (ty_rowsL (
    rows_cons (args := [bad, bad]) (.bezout _ _ _ _ ⟨sb, sb⟩ (by rw [two1]; rfl)) hb.s (by show 2 ≤ 1000; decide) (tya_cons (ty_var rfl) (tya_cons (ty_var rfl) tya_nil)) (ty_var rfl) rows_nil) (by decide)) (by decide))) ?_
  show TyS W [some bx, some (dt K (.bool x)), some (dt K bad), some (dt K (.int good)), some (dt K wrong), some (dt K nums), some (rowsX K 8), none, none, none, none, none] _ _ _ _ _
  refine tys_seqE (tys_set (T := rowsX K 12) (ty_rowsC (n := 8) (m := 4) (ty_var rfl) (ty_rowsL (
    rows_cons (args := [.int good, bad]) (.bezout _ _ _ _ ⟨sg, sb⟩ (by rw [two2]; rfl)) hb.s (by show 2 ≤ 1000; decide) (tya_cons (ty_var rfl) (tya_cons (ty_var rfl) tya_nil)) (ty_var rfl) (
    rows_cons (args := [bad, .int 0]) (.inverse _ _ _ _ ⟨sb, s0⟩ (by rw [ib]; rfl)) hb.s (by show 2 ≤ 1000; decide) (tya_cons (ty_var rfl) (tya_cons ty_int tya_nil)) (ty_var rfl) (
    rows_cons (args := [.int good, .int 0]) (g := .int 0) (.inverse _ _ _ _ ⟨sg, s0⟩ rfl) trivial (by show 2 ≤ 1000; decide) (tya_cons (ty_var rfl) (tya_cons ty_int tya_nil)) ty_int (
    rows_cons (args := [.int good, wrong]) (.inverse _ _ _ _ ⟨sg, hw.q⟩ (by rw [ig]; rfl)) hw.s (by show 2 ≤ 1000; decide) (tya_cons (ty_var rfl) (tya_cons (ty_var rfl) tya_nil)) (ty_var rfl) rows_nil)))) (by decide)) (by decide))) ?_
  show TyS W [some bx, some (dt K (.bool x)), some (dt K bad), some (dt K (.int good)), some (dt K wrong), some (dt K nums), some (rowsX K 12), none, none, none, none, none] _ _ _ _ _
  refine tys_seqE (tys_set (T := rowsX K 15) (ty_rowsC (n := 12) (m := 3) (ty_var rfl) (ty_rowsL (
    rows_cons (args := [bad]) (.primes _ _ _ (by rw [pb]; rfl)) hb.s (by show 1 ≤ 1000; decide) (tya_cons (ty_var rfl) tya_nil) (ty_var rfl) (
    rows_cons (args := [.int 0]) (g := .int 0) (.primes _ _ _ rfl) trivial (by show 1 ≤ 1000; decide) (tya_cons ty_int tya_nil) ty_int (
    rows_cons (args := [.int (-6)]) (g := .int (-6)) (.primes _ _ _ rfl) trivial (by show 1 ≤ 1000; decide) (tya_cons (ty_un (ty_int (n := 6)) unt_neg) tya_nil) (ty_un (ty_int (n := 6)) unt_neg) rows_nil))) (by decide)) (by decide))) ?_
  show TyS W [some bx, some (dt K (.bool x)), some (dt K bad), some (dt K (.int good)), some (dt K wrong), some (dt K nums), some (rowsX K 15), none, none, none, none, none] _ _ _ _ _
  have big : ∀ Γ : Gam, Ty W Γ (tOp (rAddA K) (tOp (rI CPow fun i j => V.int (i ^ j.toNat)) (tC (V.int 10)) (tC (V.int 12))) (tC (V.int 1))) (dt K (.int 1000000000001)) := fun Γ => Ty.is (ty_op (ty_op ty_int ty_int (opt_pow ⟨by decide, by decide, by decide⟩)) ty_int opt_add) (congrArg PyData.int (by decide +kernel))
  refine tys_seqE (tys_set (T := rowsX K 17) (ty_rowsC (n := 15) (m := 2) (ty_var rfl) (ty_rowsL (
    rows_cons (args := [.int 1000000000001]) (g := .int 1000000000001) (.primes _ _ _ (by rw [show bPrimes (.int 1000000000001) = some (.num, .int 1000000000001) from if_neg (by decide +kernel)]; rfl)) trivial (by show 1 ≤ 1000; decide) (tya_cons (big _) tya_nil) (big _) (
    rows_cons (args := [bad, .int 4]) (.valuation _ _ _ _ (fun z => by rw [bad_wI hb]; decide) (by rw [vb]; rfl)) hb.s (by show 2 ≤ 1000; decide) (tya_cons (ty_var rfl) (tya_cons ty_int tya_nil)) (ty_var rfl) rows_nil)) (by decide)) (by decide))) ?_
  show TyS W [some bx, some (dt K (.bool x)), some (dt K bad), some (dt K (.int good)), some (dt K wrong), some (dt K nums), some (rowsX K 17), none, none, none, none, none] _ _ _ _ _
  refine tys_seqE (tys_set (T := rowsX K 25) (ty_rowsC (n := 17) (m := 8) (ty_var rfl) ?_ (by decide))) ?_
  · have hL : TyL W [some bx, some (dt K (.bool x)), some (dt K bad), some (dt K (.int good)), some (dt K wrong), some (dt K nums), some (rowsX K 17), none, none, none, none, none] (tLc (iList K (tLst (tCons (tC (V.int 4)) (tCons (tC (V.int 1)) (tCons (tC (V.int 0)) (tCons (tUn (rU fun i => .int (-i)) (tC (V.int 2))) (tCons (tC (V.bl true)) (tCons (tC V.non) (tCons (tC (V.str "2")) (tCons (tC (V.int 1000003)) tNil)))))))))) (gName 7) tYes (tLst (tCons (tC (V.str "valuation")) (tCons (tLst (tCons (tVar 3) (tCons (tVar 7) tNil))) (tCons (tLst (tCons (tC (V.str "prime")) (tCons (tVar 7) tNil))) tNil)))) [7]) (valsP.map fun d => dt K (rowD ("valuation", [.int good, d], "prime", d))) :=
      tyl_map (dt K) (fun d => dt K (rowD ("valuation", [.int good, d], "prime", d))) (tyi_lstD (ty_lstD (ds := valsP) (tya_cons ty_int (tya_cons ty_int (tya_cons ty_int (tya_cons (ty_un (ty_int (n := 2)) unt_neg) (tya_cons ty_bl (tya_cons ty_non (tya_cons ty_str (tya_cons ty_int tya_nil)))))))) (by show 8 ≤ 1000000; decide))) (by show 8 ≤ 1000000; decide) (by decide) fun W' d hd => ty_row (args := [.int good, d]) (by show 2 ≤ 1000; decide) (tya_cons (ty_var rfl) (tya_cons (ty_var rfl) tya_nil)) (ty_var rfl)
    refine hL.ty.sub fun v H _ z => ⟨valsP.map fun d => ("valuation", [.int good, d], "prime", d), ⟨rfl, fun r hr => ?_⟩, by rw [List.map_map]; exact z⟩
    obtain ⟨d, hd, rfl⟩ := List.mem_map.mp hr
    obtain ⟨z1, z2⟩ := valsP_no d hd
    exact ⟨.valuation _ _ _ _ (fun z => (bfalse z1 z).elim) (by rw [prime_no z1]; rfl), z2⟩
  refine TyS.openX (n := 6) rfl fun rows => TyS.openG (n := 6) rfl fun hr => ?_
  have rok := hr.2
  show TyS W [some bx, some (dt K (.bool x)), some (dt K bad), some (dt K (.int good)), some (dt K wrong), some (dt K nums), some (lstT (rows.map fun r => dt K (rowD r))), none, none, none, none, none] _ _ _ _ _
  refine tys_seqX (α := Bool) (W' := fun _ => W) (Γ' := fun y => [some bx, some (dt K (.bool y)), none, some (dt K (.int good)), none, none, none, none, none, none, none, none]) ?_ fun y => ?_
  · have hi : TyI W [some bx, some (dt K (.bool x)), some (dt K bad), some (dt K (.int good)), some (dt K wrong), some (dt K nums), some (lstT (rows.map fun r => dt K (rowD r))), none, none, none, none, none] (iList K (tVar 6)) (rows.map fun r => dt K (rowD r)) := tyi_lst (ty_var rfl)
    refine tys_for (Wi := fun _ (_ : Bool) => W) (Γi := fun i (y : Bool) => [some bx, some (dt K (.bool y)), none, some (dt K (.int good)), none, none, none, none, none, none, none, none]) x hi (fun _ _ => Wd.Like.refl W) (fun σ H g => ⟨g.1, EnvL.less (by exact ⟨fun _ _ _ _ h => h, fun _ _ _ _ h => h, fun _ _ _ _ h => h, True.intro⟩) g.2⟩) (fun i T' y hT => ?_) (fun y σ H g => ⟨y, g⟩)
    rw [List.getElem?_map] at hT
    cases hp : rows[i]? with
    | none => rw [hp] at hT; cases hT
    | some r =>
      rw [hp] at hT
      cases hT
      obtain ⟨hcall, hst⟩ := rok r (List.mem_of_getElem? hp)
      obtain ⟨which, args, tag, g⟩ := r
      refine ⟨_, (tyg_unl (Ts := [dt K (.str which), dt K (.list args), dt K (.list [.str tag, g])]) (tygs_cons (tyg_name 8) (tygs_cons (tyg_name 9) (tygs_cons (tyg_name 10) tygs_nil)))).sub fun v H z => data_lstT (ds := [.str which, .list args, .list [.str tag, g]]) z, ?_⟩
      show TyS W [some bx, some (dt K (.bool y)), none, some (dt K (.int good)), none, none, none, none, some (dt K (.str which)), some (dt K (.list args)), some (dt K (.list [.str tag, g])), none] _ _ _ _ _
      refine tys_seqE (tys_set (ty_lc2 (x := ⟨which, args, y, tag, g⟩) hcall (tya_cons (ty_var rfl) (tya_cons (ty_var rfl) (tya_cons (ty_var rfl) tya_nil))))) ?_
      refine tys_guard (φ := (· = false)) (tt_orB (a := false) (Tt.is (tt_test (ty_op (ty_cb (tya_cons (ty_var rfl) tya_nil) (cbt_lenL (ds := [.str tag, g]))) ty_int opt_neI)) rfl) fun _ => tt_orB (a := false) (Tt.is (tt_test (ty_op (ty_op (ty_var rfl) ty_int (opt_ixL (i := 0) (d := .str tag) (ds := [.str tag, g]) (atI_nat (j := 0) rfl))) (ty_op (ty_var rfl) ty_int (opt_ixL (i := 0) (d := .str tag) (ds := [.str tag, g]) (atI_nat (j := 0) rfl))) opt_neS)) (by simp)) fun _ => Tt.is (tt_notB (tt_B (ty_call g hst (tya_cons (ty_op (ty_var rfl) ty_int (opt_ixL (i := 1) (d := g) (ds := [.str tag, g]) (atI_nat (j := 1) rfl))) (tya_cons (ty_op (ty_var rfl) ty_int (opt_ixL (i := 1) (d := g) (ds := [.str tag, g]) (atI_nat (j := 1) rfl))) tya_nil))))) rfl) (fun z => Bool.noConfusion z) fun _ => ?_
      refine TyS.imp (tys_set (ty_notV (ty_var rfl))) fun σ H q => ⟨!y, q.1, EnvL.less (by exact ⟨fun _ _ _ _ h => h, fun _ _ _ _ h => h, fun _ _ _ _ h => h, True.intro⟩) q.2⟩
  have okD : smOk 8 (PyData.list [.list [.str "told", .int 0], .list [.str "told", .tuple []]]) := ⟨by show 2 ≤ 1000; decide, fun z hz => by
    have hz' : z = .list [.str "told", .int 0] ∨ z = .list [.str "told", .tuple []] := by simpa using hz
    rcases hz' with rfl | rfl
    · exact smOk_told (n := 5) trivial (by decide)
    · exact smOk_told (n := 5) ⟨by show 0 ≤ 1000; decide, fun _ z => (List.not_mem_nil z).elim⟩ (by decide)⟩
  have sone : sq 1 := sq_small (by decide)
  exact TyS.never (tys_retW (ty_call (PyData.list [.list [.str "told", .int 0], .list [.str "told", .tuple []]]) okD (tya_cons (ty_l2 (ty_lc2 (x := ⟨"inverse", [.int good, .int 1], y, "told", .int 0⟩) (.inverse _ _ _ _ ⟨sg, sone⟩ (by rw [show invD (wI (.int good)) (wI (.int 1)) = .int 0 from invD_one good]; rfl)) (tya_cons ty_str (tya_cons (ty_l2 (ty_var rfl) ty_int) (tya_cons (ty_var rfl) tya_nil)))) (ty_lc2 (x := ⟨"primes", [.int 1], y, "told", .tuple []⟩) (.primes _ _ _ rfl) (tya_cons ty_str (tya_cons (ty_l1 ty_int) (tya_cons (ty_var rfl) tya_nil))))) (tya_cons (ty_l2 (ty_l2 ty_str ty_int) (ty_l2 ty_str (ty_tupD (ds := []) tya_nil (by show 0 ≤ 1000000; decide)))) tya_nil))))
end
section
variable {P : Program} {w : World} {K : PySem.W.Frag} {mg : Str → Option Value} {base : Heap}
def sp_law_scene_right (K : PySem.W.Frag) : Sp := spT (fun _ : Bool => True) (fun b => [bx, dt K (.bool b)]) (fun _ => dt K (.bool true))
theorem ok_law_scene_right (T : Tx P K mg) : FnOk P w K mg base (L2.CX P w) 14 T.a_law_scene_right T.f_law_scene_right ["box", "named"] (sp_law_scene_right K) := by
  have G_law_numbers_right := ok_law_numbers_right (w := w) (base := base) T
  have G_law_lists_right := ok_law_lists_right (w := w) (base := base) T
  have G_law_primes_right := ok_law_primes_right (w := w) (base := base) T
  have G_law_refused_right := ok_law_refused_right (w := w) (base := base) T
  have nd := sc_law_scene_right.nd
  refine fn_ty T.F_law_scene_right sc_law_scene_right (fun x _ => rfl) fun cdv Ar outer s H E hr => ⟨_, (pss_one (ps_ret (pe_and (pcall G_law_numbers_right (hr.mono (by decide)) T.D_law_numbers_right (pa_cons (pv 0) (pa_cons (pv 1) pa_nil))) (pe_and (pcall G_law_lists_right (hr.mono (by decide)) T.D_law_lists_right (pa_cons (pv 0) (pa_cons (pv 1) pa_nil))) (pe_and (pcall G_law_primes_right (hr.mono (by decide)) T.D_law_primes_right (pa_cons (pv 0) (pa_cons (pv 1) pa_nil))) (pe_one (pcall G_law_refused_right (hr.mono (by decide)) T.D_law_refused_right (pa_cons (pv 0) (pa_cons (pv 1) pa_nil))))))))), fun W x hC => ?_⟩
  have G : ∀ {sp : Sp}, sp = spT (fun _ : Bool => True) (fun b => [bx, dt K (.bool b)]) (fun _ => dt K (.bool true)) → Ty W [some bx, some (dt K (.bool x))] (tCall sp [] E0 (tCons (tVar 0) (tCons (tVar 1) tNil))) (dt K (.bool true)) := fun e => by
    rw [e]
    exact ty_call x trivial (tya_cons (ty_var rfl) (tya_cons (ty_var rfl) tya_nil))
  exact TyS.never (tys_retW (Ty.is (ty_andV (a := true) (b := true) (G rfl) fun _ => Ty.is (ty_andV (a := true) (b := true) (G rfl) fun _ => Ty.is (ty_andV (a := true) (b := true) (G rfl) fun _ => G rfl) rfl) rfl) rfl))
end
section
variable {P : Program} {w : World} {K : PySem.W.Frag} {mg : Str → Option Value} {base : Heap}
def intT (K : PySem.W.Frag) : Typ := exT fun i : Int => dt K (.int i)
/-- the script, as the law is called with it: no one may write to it -/
def SqF (K : PySem.W.Frag) (H : Hp) (a : Addr) (xs : List V) : Prop :=
  (∃ o, H a = some (.frz o (.lst xs))) ∨ ∃ (o : Obj) (its : Array Value) (n : Nat), K.lookup a = some o ∧ o.cls = .type "list" ∧ o.dict = none ∧ o.data = .seq its n ∧ its.size ≤ sizeLine ∧ Vals xs its.toList
theorem SqF.sq {K : PySem.W.Frag} {H : Hp} {a : Addr} {xs : List V} (h : SqF K H a xs) : SqL K H a xs := h.elim (fun ⟨o, h⟩ => .inl (.inr ⟨o, h⟩)) .inr
def scrT (K : PySem.W.Frag) (ns : List Int) : Typ := ⟨fun _ _ v H => ∃ a, v = .ref a ∧ SqF K H a (ns.map V.int), fun e ⟨a, h1, h2⟩ => ⟨a, h1, h2.elim (fun ⟨o, h⟩ => .inl ⟨o, e.keepT h fun _ z => nomatch z⟩) .inr⟩, fun _ h => h, fun h => h⟩
theorem cbt_lenScr {W : Wd} {K : PySem.W.Frag} {ns : List Int} : CbT W (Ew.rLen K) [scrT K ns] (dt K (.int (ns.length : Nat))) := fun us H c hu Q q => by
  obtain ⟨v, rfl, a, rfl, h⟩ := hu.one
  exact ⟨_, ns.length, rfl, .inl ⟨_, h.sq, by rw [List.length_map]⟩, q _ H (Ex.refl _ _) (.int _)⟩
theorem opt_ixScr {W : Wd} {K : PySem.W.Frag} {ns : List Int} {n : Nat} {z : Int} (e : ns[n]? = some z) : OpT W (rIx K) (scrT K ns) (dt K (.int (n : Nat))) (dt K (.int z)) := fun u v H c ⟨a, h1, h2⟩ hv Q q => by
  subst h1
  cases hv
  exact .inl ⟨a, _, (n : Int), .int z, rfl, rfl, h2.sq, atI_nat (by rw [List.getElem?_map, e]; rfl), q _ H (Ex.refl _ _) (.int _)⟩
theorem tys_of_ints {M B : Addr → Prop} {K : PySem.W.Frag} {H : Hp} : ∀ ns : List Int, TysV M B (ns.map fun n => dt K (.int n)) (ns.map V.int) H
  | [] => True.intro
  | n :: ns => ⟨.int n, tys_of_ints ns⟩
theorem cutV_ints (ns : List Int) (lo hi : Option Int) : cutV (ns.map V.int) lo hi = (cutD ns lo hi).map V.int := by
  unfold cutV cutD
  rw [List.length_map, ← List.map_drop, ← List.map_take]
theorem ty_slScr {W : Wd} {Γ : Gam} {K : PySem.W.Frag} {ns : List Int} {te : TE} {tl th : TO} {lo hi : Option Int} (h : Ty W Γ te (scrT K ns)) (hl : TyO W Γ tl lo) (hh : TyO W Γ th hi) : Ty W Γ (tSl (rSlAll K) te tl th) (lstT ((cutD ns lo hi).map fun n => dt K (.int n))) := fun σ H c g Q q =>
  h σ H c g _ fun v H1 e1 hv => hl σ H1 (c.up e1) (g.up e1.toW) _ fun H2 e2 => hh σ H2 (c.up (e1.trans e2)) (g.up (e1.trans e2).toW) _ fun H3 e3 => by
    obtain ⟨a, rfl, h2⟩ := (scrT K ns).up (e2.trans e3).toW hv
    have e13 := e1.trans (e2.trans e3)
    exact .inl ⟨a, _, rfl, h2.sq, fun p hp => q _ _ (e13.trans (Ex.new hp)) ⟨p, _, rfl, c.nm (e13.free hp), upd_same, by rw [cutV_ints]; exact tys_of_ints _⟩⟩
def sp_law_cell (K : PySem.W.Frag) : Sp := spT (fun x : List Int × Nat => x.2 ≤ 1000) (fun x => [scrT K x.1, dt K (.int (x.2 : Nat))]) (fun _ => intT K)
theorem ok_law_cell (T : Tx P K mg) : FnOk P w K mg base (L2.CX P w) 1 T.a_law_cell T.f_law_cell ["script", "k"] (sp_law_cell K) := by
  have nd := sc_law_cell.nd
  refine fn_ty T.F_law_cell sc_law_cell (fun x _ => rfl) fun cdv Ar outer s H E hr => ⟨_, (pss_one (ps_ret (pe_ifExp (pt_cmpR op_lt (pv 1) (k_len (K := K) rfl T.m_len (pa_cons (pv 0) pa_nil)) (nomark _)) (pe_ix (k_ix (K := K) rfl) (pv 0) (pv 1) (fun _ _ => rfl)) (pe_op (k_add (K := K) rfl) (pe_op op_mulA pe_int (pv 1)) (pe_op op_mod (bi_int T.m_int (pa_cons (k_sum (K := K) rfl T.m_sum (pa_cons (pe_slice (k_sl (K := K) rfl) (pv 0) po_none (po_some pe_int)) pa_nil)) pa_nil)) pe_int))))), fun W x hC => ?_⟩
  obtain ⟨l, n⟩ := x
  dsimp only at hC
  refine TyS.never (tys_retW (ty_if (φ := (· = decide ((n : Int) < (l.length : Nat)))) (tt_test (ty_op (ty_var rfl) (ty_cb (tya_cons (ty_var rfl) tya_nil) cbt_lenScr) opt_lt)) (fun z => ?_) fun z => ?_))
  · have hn : n < l.length := by
      have z1 := of_decide_eq_true z.symm
      omega
    exact Ty.ex (l[n]) (ty_op (ty_var rfl) (ty_var rfl) (opt_ixScr (List.getElem?_eq_getElem hn)))
  · exact Ty.ex (A := fun i : Int => dt K (.int i)) _ (ty_op (ty_op ty_int (ty_var rfl) (opt_mul (.inl ⟨by decide, by decide⟩))) (ty_op (ty_cb (tya_cons (ty_cb (tya_cons (ty_slScr (ty_var rfl) tyo_none (tyo_some (ty_int (K := K)))) tya_nil) cbt_sum) tya_nil) cbt_intI) ty_int (opt_mod (by decide))) opt_add)
end
section
variable {P : Program} {w : World} {K : PySem.W.Frag} {mg : Str → Option Value} {base : Heap}
theorem tyl_callX {W : Wd} {Γ : Gam} {tl : TA} {α : Type} {C : α → Prop} {A Ts : α → List Typ} {E : XK} {As Us : List Typ} (h : TyA W Γ tl As)
    (k : ∀ vs H, TysV W.M W.B As vs H → ∃ x, C x ∧ TysV W.M W.B (A x) vs H ∧ ∀ xs H', TysV W.M W.B (Ts x) xs H' → TysV W.M W.B Us xs H') : TyL W Γ (tCall (spL C A Ts) [] E tl) Us := fun σ H c g Q q =>
  h σ H c g _ fun vs H1 e1 hv => by
    obtain ⟨x, hC, hA, hR⟩ := k vs H1 hv
    exact ⟨W.M, W.B, x, W.sub, (c.up e1).box, (c.up e1).al, hC, by rw [List.append_nil]; exact hA, fun p xs H2 e2 hp h2 h3 => q p xs H2 (e1.trans e2) (e1.free hp) h2 (hR xs H2 h3)⟩
def bxU (K : PySem.W.Frag) : List Typ := [exT fun i : Int => dt K (.int i), exT fun b : Bool => dt K (.bool b), exT fun c : Int => gd (0 ≤ c ∧ c < 2147483629) (dt K (.int c)), exT fun i : Int => dt K (.int i)]
theorem bxU_box {K : PySem.W.Frag} {M B : Addr → Prop} {xs : List V} {H : Hp} (h : TysV M B (bxU K) xs H) : BxL xs := by
  unfold bxU at h
  obtain ⟨a, b, c, d, rfl, h1, h2, h3, h4⟩ := tysv4 h
  obtain ⟨i, h1⟩ := h1
  obtain ⟨z, h2⟩ := h2
  obtain ⟨k, hk, h3⟩ := h3
  obtain ⟨j, h4⟩ := h4
  cases h1; cases h2; cases h3; cases h4
  exact ⟨_, _, _, _, rfl, hk.1, hk.2⟩
theorem boxTs_U {K : PySem.W.Frag} {M B : Addr → Prop} {g : Int} {xs : List V} {H : Hp} (h : TysV M B (boxTs K g) xs H) : TysV M B (bxU K) xs H := by
  obtain ⟨a, b, c, d, rfl, h1, h2, h3, h4⟩ := tysv4 h
  have k1 : (exT fun i : Int => dt K (.int i)).p M B a H := ⟨absI g, h1⟩
  have k2 : (exT fun b : Bool => dt K (.bool b)).p M B b H := ⟨decide ((10 : Int) ^ (18 : Int).toNat ≤ absI g), h2⟩
  have k3 : (exT fun c : Int => gd (0 ≤ c ∧ c < 2147483629) (dt K (.int c))).p M B c H := ⟨absI g % 2147483629, ⟨Int.emod_nonneg _ (by decide), Int.emod_lt_of_pos _ (by decide)⟩, h3⟩
  have k4 : (exT fun i : Int => dt K (.int i)).p M B d H := ⟨0, h4⟩
  exact ⟨k1, k2, k3, k4, True.intro⟩
theorem env2 {M B : Addr → Prop} {A C : Typ} {σ : Sx} {H : Hp} (g : EnvL M B [some A, some C, none, none] σ H) : ∃ u v s2 s3, σ = [some u, some v, s2, s3] ∧ A.p M B u H ∧ C.p M B v H := by
  match σ, g with
  | [some u, some v, s2, s3], g => exact ⟨u, v, s2, s3, rfl, g.1, g.2.1⟩
theorem env1 {M B : Addr → Prop} {A : Typ} {σ : Sx} {H : Hp} (g : EnvL M B [some A, none, none, none] σ H) : ∃ u s1 s2 s3, σ = [some u, s1, s2, s3] ∧ A.p M B u H := by
  match σ, g with
  | [some u, s1, s2, s3], g => exact ⟨u, s1, s2, s3, rfl, g.1⟩
theorem tysv1 {M B : Addr → Prop} {A1 : Typ} {us : List V} {H : Hp} (h : TysV M B [A1] us H) : ∃ a, us = [a] ∧ A1.p M B a H := by
  match us, h with
  | [a], h => exact ⟨a, rfl, h.1⟩
def sp_law (K : PySem.W.Frag) : Sp := spT (fun _ : List Int => True) (fun ns => [scrT K ns]) (fun _ => dt K (.bool true))
theorem ok_law (T : Tx P K mg) : FnOk P w K mg base (L2.CX P w) 15 T.a_law T.f_law ["script"] (sp_law K) := by
  have G_law_box := ok_law_box (w := w) (base := base) T
  have G_law_cell := ok_law_cell (w := w) (base := base) T
  have G_law_take := ok_law_take (w := w) (base := base) T
  have G_law_scene_right := ok_law_scene_right (w := w) (base := base) T
  have nd := sc_law.nd
  refine fn_ty T.F_law sc_law (fun x _ => rfl) fun cdv Ar outer s H E hr => ⟨_, (pss_cons (ps_for PassesOwn.never rfl (pi_range1 rfl T.m_range (pa_cons (bi_max2 T.m_max (pa_cons pe_int (pa_cons (bi_min2 T.m_min (pa_cons pe_int (pa_cons (k_len (K := K) rfl T.m_len (pa_cons (pv 0) pa_nil)) pa_nil))) pa_nil))) pa_nil)) (pgn 1 nd) (pss_cons (pset 2 nd (pcall G_law_box (hr.mono (by decide)) T.D_law_box (pa_cons (pcall G_law_cell (hr.mono (by decide)) T.D_law_cell (pa_cons (pv 0) (pa_cons (pv 1) pa_nil))) pa_nil)))
    (pss_cons (pset 3 nd (pe_cmpR (k_eq (K := K) rfl hr.units) (pcall G_law_take (hr.mono (by decide)) T.D_law_take (pa_cons (pv 2) (pa_cons pe_int pa_nil))) pe_int (nomark _)))
    (pss_one (ps_if (PW.pt (pw_or (pt_not (pt_val (pcall G_law_scene_right (hr.mono (by decide)) T.D_law_scene_right (pa_cons (pv 2) (pa_cons (pv 3) pa_nil))))) (pw_or1 (pt_not (pt_val (pcall G_law_scene_right (hr.mono (by decide)) T.D_law_scene_right (pa_cons (pv 2) (pa_cons (pe_not (pv 3)) pa_nil)))))))) (pss_one (ps_ret pe_bl)) pss_nil)))))
    (pss_one (ps_ret pe_bl))), fun W x hC => ?_⟩
  refine tys_seqE (W' := W) (Γ' := [some (scrT K x), none, none, none]) ?_ (TyS.never (tys_retW ty_bl))
  have hi : TyI W [some (scrT K x), none, none, none] (iRng1 (tCons (tCB rMax2 (tCons (tC (.int 2)) (tCons (tCB rMin2 (tCons (tC (.int 4)) (tCons (tCB (Ew.rLen K) (tCons (tVar 0) tNil)) tNil))) tNil))) tNil)) ((List.range (if (if ((x.length : Nat) : Int) < 4 then ((x.length : Nat) : Int) else 4) > 2 then (if ((x.length : Nat) : Int) < 4 then ((x.length : Nat) : Int) else 4) else 2 : Int).toNat).map fun i : Nat => dt K (.int (i : Nat))) := by
    refine tyi_rng1 (tya_cons (ty_cb (tya_cons ty_int (tya_cons (ty_cb (tya_cons ty_int (tya_cons (ty_cb (tya_cons (ty_var rfl) tya_nil) cbt_lenScr) tya_nil)) cbt_min2) tya_nil)) cbt_max2) tya_nil) ?_ ?_
    · split <;> (try split) <;> omega
    · split <;> (try split) <;> omega
  have hn : (if (if ((x.length : Nat) : Int) < 4 then ((x.length : Nat) : Int) else 4) > 2 then (if ((x.length : Nat) : Int) < 4 then ((x.length : Nat) : Int) else 4) else 2 : Int).toNat ≤ 4 := by
    split <;> (try split) <;> omega
  generalize (if (if ((x.length : Nat) : Int) < 4 then ((x.length : Nat) : Int) else 4) > 2 then (if ((x.length : Nat) : Int) < 4 then ((x.length : Nat) : Int) else 4) else 2 : Int).toNat = m at hi hn
  refine tys_for (Wi := fun _ (_ : Unit) => W) (Γi := fun _ (_ : Unit) => [some (scrT K x), none, none, none]) () hi (fun _ _ => Wd.Like.refl W) (fun σ H g => g) (fun i T' _ hT => ?_) (fun _ σ H g => g)
  obtain ⟨hl, rfl⟩ := range_map_get hT
  refine ⟨_, tyg_name 1, ?_⟩
  show TyS W [some (scrT K x), some (dt K (.int (i : Nat))), none, none] _ _ _ _ _
  refine TyS.imp (tys_box (Γ' := [some (scrT K x), none, none, none]) (T := dt K (.bool true)) (tyl_callX (As := [intT K]) (Us := bxU K) (tya_cons (ty_call (x, i) (show i ≤ 1000 by omega) (tya_cons (ty_var rfl) (tya_cons (ty_var rfl) tya_nil))) tya_nil) fun vs H hv => ?_) (fun xs H h => bxU_box h) (fun p σ H0 H e h0 g => ?_) (fun p np => ?_) (fun p σ H g => ?_) (fun p v H z => Rp.drop z)) fun σ H g => ⟨(), g⟩
  · obtain ⟨a, rfl, g, hg⟩ := tysv1 hv
    exact ⟨g, trivial, ⟨hg, True.intro⟩, fun xs H' z => boxTs_U z⟩
  · obtain ⟨u, v, s2, s3, rfl, g1, g2⟩ := env2 g
    cases g2
    have g3 : (scrT K x).p W.M W.B u H := (scrT K x).up e g1
    exact ⟨g3, .int _, True.intro⟩
  · show TyS (W.bx p) [some (scrT K x), some (dt K (.int (i : Nat))), some bx, none] _ _ _ _ _
    refine tys_seqE (tys_set (T := exT fun g : Bool => dt K (.bool g)) (ty_opX (α := Nat) (A := fun k => gd (k < 2) (dt K (.int (k : Nat)))) (P := fun g : Bool => dt K (.bool g)) (ty_call 2 ⟨by decide, by decide⟩ (tya_cons (ty_var rfl) (tya_cons (Ty.is ty_int rfl) tya_nil))) (ty_int (n := 0)) fun k => ⟨decide ((k : Int) = 0), OpT.gdl fun _ => opt_eqI⟩)) ?_
    refine TyS.openX (n := 3) rfl fun nm => ?_
    show TyS (W.bx p) [some (scrT K x), some (dt K (.int (i : Nat))), some bx, some (dt K (.bool nm))] _ _ _ _ _
    refine tys_if (φ := (· = false)) (Tt.is (tt_orB (a := false) (Tt.is (tt_notB (tt_B (ty_call nm trivial (tya_cons (ty_var rfl) (tya_cons (ty_var rfl) tya_nil))))) rfl) fun _ => Tt.is (tt_notB (tt_B (ty_call (!nm) trivial (tya_cons (ty_var rfl) (tya_cons (ty_notV (ty_var rfl)) tya_nil))))) rfl) rfl) (fun z => Bool.noConfusion z) (fun _ => tys_next.imp fun σ H n => ⟨n.1, EnvL.less (by exact ⟨fun _ _ _ _ h => h, True.intro⟩) n.2⟩)
  · obtain ⟨u, s1, s2, s3, rfl, g1⟩ := env1 g
    exact ⟨g1, True.intro⟩
end
end
section
open PySem PySem.Spec PyProof.Rows L2 Ew
theorem exm_of {K : PySem.W.Frag} {S R : Addr} {b : Bool} (h1 : PySem.W.subIn K (.ref S) (.type "BaseException") = some true) (h1' : PySem.W.subIn K (.ref R) (.type "BaseException") = some true) (h2 : PySem.W.isClsIn K R = true) (h3 : PySem.W.typeIn K (.ref R) = some (.type "type")) (h4 : PySem.W.subIn K (.ref S) (.ref R) = some b) :
    PySem.W.exmOne K (.ref S) (.ref R) = some b := by
  have e1 : (PySem.W.subIn K (.ref R) (.type "BaseException") == some true) = true := by rw [h1'] <;> rfl
  have e2 : ((PySem.W.clsIn K R).isSome && PySem.W.typeIn K (.ref R) == some (.type "type")) = true := by
    have h2' : (PySem.W.clsIn K R).isSome = true := h2
    rw [h2', h3] <;> rfl
  show (if (PySem.W.subIn K (.ref R) (.type "BaseException") == some true) = true then (if ((PySem.W.clsIn K R).isSome && PySem.W.typeIn K (.ref R) == some (.type "type")) = true then PySem.W.subIn K (.ref S) (.ref R) else none) else none) = some b
  rw [if_pos e1, if_pos e2]
  exact h4
theorem all_mk {P : Program} {w : World} {K : PySem.W.Frag} {h : Heap} {mg : Str → Option Value} {fa : Addr} (X : K.In h) (G : h.Ns mainGlobals mg) (hfa : mg "law" = some (.ref fa))
    {f_is_whole : Addr} {oc_is_whole kV_is_whole dc_is_whole pm_is_whole cd_is_whole ct_is_whole : Value} {od_is_whole an_is_whole : Option Addr} {sl_is_whole : Array (Option Value)}
    {f_is_between : Addr} {oc_is_between kV_is_between dc_is_between pm_is_between cd_is_between ct_is_between : Value} {od_is_between an_is_between : Option Addr} {sl_is_between : Array (Option Value)}
    {f_is_list : Addr} {oc_is_list kV_is_list dc_is_list pm_is_list cd_is_list ct_is_list : Value} {od_is_list an_is_list : Option Addr} {sl_is_list : Array (Option Value)}
    {f_check_number : Addr} {oc_check_number kV_check_number dc_check_number pm_check_number cd_check_number ct_check_number : Value} {od_check_number an_check_number : Option Addr} {sl_check_number : Array (Option Value)}
    {f_check_modulus : Addr} {oc_check_modulus kV_check_modulus dc_check_modulus pm_check_modulus cd_check_modulus ct_check_modulus : Value} {od_check_modulus an_check_modulus : Option Addr} {sl_check_modulus : Array (Option Value)}
    {f_wrapped : Addr} {oc_wrapped kV_wrapped dc_wrapped pm_wrapped cd_wrapped ct_wrapped : Value} {od_wrapped an_wrapped : Option Addr} {sl_wrapped : Array (Option Value)}
    {f_divides : Addr} {oc_divides kV_divides dc_divides pm_divides cd_divides ct_divides : Value} {od_divides an_divides : Option Addr} {sl_divides : Array (Option Value)}
    {f_common_of : Addr} {oc_common_of kV_common_of dc_common_of pm_common_of cd_common_of ct_common_of : Value} {od_common_of an_common_of : Option Addr} {sl_common_of : Array (Option Value)}
    {f_shared : Addr} {oc_shared kV_shared dc_shared pm_shared cd_shared ct_shared : Value} {od_shared an_shared : Option Addr} {sl_shared : Array (Option Value)}
    {f_inverse_in : Addr} {oc_inverse_in kV_inverse_in dc_inverse_in pm_inverse_in cd_inverse_in ct_inverse_in : Value} {od_inverse_in an_inverse_in : Option Addr} {sl_inverse_in : Array (Option Value)}
    {f_rest : Addr} {oc_rest kV_rest dc_rest pm_rest cd_rest ct_rest : Value} {od_rest an_rest : Option Addr} {sl_rest : Array (Option Value)}
    {f_same : Addr} {oc_same kV_same dc_same pm_same cd_same ct_same : Value} {od_same an_same : Option Addr} {sl_same : Array (Option Value)}
    {f_check_numbers : Addr} {oc_check_numbers kV_check_numbers dc_check_numbers pm_check_numbers cd_check_numbers ct_check_numbers : Value} {od_check_numbers an_check_numbers : Option Addr} {sl_check_numbers : Array (Option Value)}
    {f_common : Addr} {oc_common kV_common dc_common pm_common cd_common ct_common : Value} {od_common an_common : Option Addr} {sl_common : Array (Option Value)}
    {f_least_multiple : Addr} {oc_least_multiple kV_least_multiple dc_least_multiple pm_least_multiple cd_least_multiple ct_least_multiple : Value} {od_least_multiple an_least_multiple : Option Addr} {sl_least_multiple : Array (Option Value)}
    {f_bezout : Addr} {oc_bezout kV_bezout dc_bezout pm_bezout cd_bezout ct_bezout : Value} {od_bezout an_bezout : Option Addr} {sl_bezout : Array (Option Value)}
    {f_inverse : Addr} {oc_inverse kV_inverse dc_inverse pm_inverse cd_inverse ct_inverse : Value} {od_inverse an_inverse : Option Addr} {sl_inverse : Array (Option Value)}
    {f_factors_of : Addr} {oc_factors_of kV_factors_of dc_factors_of pm_factors_of cd_factors_of ct_factors_of : Value} {od_factors_of an_factors_of : Option Addr} {sl_factors_of : Array (Option Value)}
    {f_primes_in : Addr} {oc_primes_in kV_primes_in dc_primes_in pm_primes_in cd_primes_in ct_primes_in : Value} {od_primes_in an_primes_in : Option Addr} {sl_primes_in : Array (Option Value)}
    {f_is_prime : Addr} {oc_is_prime kV_is_prime dc_is_prime pm_is_prime cd_is_prime ct_is_prime : Value} {od_is_prime an_is_prime : Option Addr} {sl_is_prime : Array (Option Value)}
    {f_power_in : Addr} {oc_power_in kV_power_in dc_power_in pm_power_in cd_power_in ct_power_in : Value} {od_power_in an_power_in : Option Addr} {sl_power_in : Array (Option Value)}
    {f_valuation : Addr} {oc_valuation kV_valuation dc_valuation pm_valuation cd_valuation ct_valuation : Value} {od_valuation an_valuation : Option Addr} {sl_valuation : Array (Option Value)}
    {f_law_box : Addr} {oc_law_box kV_law_box dc_law_box pm_law_box cd_law_box ct_law_box : Value} {od_law_box an_law_box : Option Addr} {sl_law_box : Array (Option Value)}
    {f_law_take : Addr} {oc_law_take kV_law_take dc_law_take pm_law_take cd_law_take ct_law_take : Value} {od_law_take an_law_take : Option Addr} {sl_law_take : Array (Option Value)}
    {f_law_cell : Addr} {oc_law_cell kV_law_cell dc_law_cell pm_law_cell cd_law_cell ct_law_cell : Value} {od_law_cell an_law_cell : Option Addr} {sl_law_cell : Array (Option Value)}
    {f_law_common : Addr} {oc_law_common kV_law_common dc_law_common pm_law_common cd_law_common ct_law_common : Value} {od_law_common an_law_common : Option Addr} {sl_law_common : Array (Option Value)}
    {f_law_all_common : Addr} {oc_law_all_common kV_law_all_common dc_law_all_common pm_law_all_common cd_law_all_common ct_law_all_common : Value} {od_law_all_common an_law_all_common : Option Addr} {sl_law_all_common : Array (Option Value)}
    {f_law_same : Addr} {oc_law_same kV_law_same dc_law_same pm_law_same cd_law_same ct_law_same : Value} {od_law_same an_law_same : Option Addr} {sl_law_same : Array (Option Value)}
    {f_law_integer : Addr} {oc_law_integer kV_law_integer dc_law_integer pm_law_integer cd_law_integer ct_law_integer : Value} {od_law_integer an_law_integer : Option Addr} {sl_law_integer : Array (Option Value)}
    {f_law_modulus : Addr} {oc_law_modulus kV_law_modulus dc_law_modulus pm_law_modulus cd_law_modulus ct_law_modulus : Value} {od_law_modulus an_law_modulus : Option Addr} {sl_law_modulus : Array (Option Value)}
    {f_law_left : Addr} {oc_law_left kV_law_left dc_law_left pm_law_left cd_law_left ct_law_left : Value} {od_law_left an_law_left : Option Addr} {sl_law_left : Array (Option Value)}
    {f_law_still : Addr} {oc_law_still kV_law_still dc_law_still pm_law_still cd_law_still ct_law_still : Value} {od_law_still an_law_still : Option Addr} {sl_law_still : Array (Option Value)}
    {f_law_call : Addr} {oc_law_call kV_law_call dc_law_call pm_law_call cd_law_call ct_law_call : Value} {od_law_call an_law_call : Option Addr} {sl_law_call : Array (Option Value)}
    {f_law_multiple : Addr} {oc_law_multiple kV_law_multiple dc_law_multiple pm_law_multiple cd_law_multiple ct_law_multiple : Value} {od_law_multiple an_law_multiple : Option Addr} {sl_law_multiple : Array (Option Value)}
    {f_law_numbers_right : Addr} {oc_law_numbers_right kV_law_numbers_right dc_law_numbers_right pm_law_numbers_right cd_law_numbers_right ct_law_numbers_right : Value} {od_law_numbers_right an_law_numbers_right : Option Addr} {sl_law_numbers_right : Array (Option Value)}
    {f_law_lists_right : Addr} {oc_law_lists_right kV_law_lists_right dc_law_lists_right pm_law_lists_right cd_law_lists_right ct_law_lists_right : Value} {od_law_lists_right an_law_lists_right : Option Addr} {sl_law_lists_right : Array (Option Value)}
    {f_law_primes_right : Addr} {oc_law_primes_right kV_law_primes_right dc_law_primes_right pm_law_primes_right cd_law_primes_right ct_law_primes_right : Value} {od_law_primes_right an_law_primes_right : Option Addr} {sl_law_primes_right : Array (Option Value)}
    {f_law_refused_right : Addr} {oc_law_refused_right kV_law_refused_right dc_law_refused_right pm_law_refused_right cd_law_refused_right ct_law_refused_right : Value} {od_law_refused_right an_law_refused_right : Option Addr} {sl_law_refused_right : Array (Option Value)}
    {f_law_scene_right : Addr} {oc_law_scene_right kV_law_scene_right dc_law_scene_right pm_law_scene_right cd_law_scene_right ct_law_scene_right : Value} {od_law_scene_right an_law_scene_right : Option Addr} {sl_law_scene_right : Array (Option Value)}
    {f_law : Addr} {oc_law kV_law dc_law pm_law cd_law ct_law : Value} {od_law an_law : Option Addr} {sl_law : Array (Option Value)}
    {tk_MOST_TRIED : Tok}
    {D fI Td cda cc : Addr} {nmD qD : Str} {ND : Addr} {bsD subD : List Value} {snD : List Str} {abD : Bool} {colD : Option Bool} {ddD : Option Addr} {w0 w1 w2 w3 w5 : Option Value}
    {iOc ikV idoc ipm ict : Value} {iod ian : Option Addr} {iosl : Array (Option Value)} {p1 p2 p3 q1 q2 q3 q4 q5 q6 q7 q8 q9 q10 : Pos} {ccl cl tc : Value} {cdd cld td : Option Addr} {vs : Array Value} {ccs csl tsl : Array (Option Value)} {file : Str} {tf : Tok} {nT : Nat}
    {C_InvalidNumber : Addr} {nm_InvalidNumber q_InvalidNumber : Str} {N_InvalidNumber : Addr} {bs_InvalidNumber su_InvalidNumber : List Value} {sn_InvalidNumber : List Str} {ab_InvalidNumber : Bool} {col_InvalidNumber : Option Bool} {dd_InvalidNumber : Option Addr} {u0_InvalidNumber u1_InvalidNumber u2_InvalidNumber u3_InvalidNumber u5_InvalidNumber : Option Value}
    {C_InvalidNumbers : Addr} {nm_InvalidNumbers q_InvalidNumbers : Str} {N_InvalidNumbers : Addr} {bs_InvalidNumbers su_InvalidNumbers : List Value} {sn_InvalidNumbers : List Str} {ab_InvalidNumbers : Bool} {col_InvalidNumbers : Option Bool} {dd_InvalidNumbers : Option Addr} {u0_InvalidNumbers u1_InvalidNumbers u2_InvalidNumbers u3_InvalidNumbers u5_InvalidNumbers : Option Value}
    {C_InvalidModulus : Addr} {nm_InvalidModulus q_InvalidModulus : Str} {N_InvalidModulus : Addr} {bs_InvalidModulus su_InvalidModulus : List Value} {sn_InvalidModulus : List Str} {ab_InvalidModulus : Bool} {col_InvalidModulus : Option Bool} {dd_InvalidModulus : Option Addr} {u0_InvalidModulus u1_InvalidModulus u2_InvalidModulus u3_InvalidModulus u5_InvalidModulus : Option Value}
    {C_InvalidPrime : Addr} {nm_InvalidPrime q_InvalidPrime : Str} {N_InvalidPrime : Addr} {bs_InvalidPrime su_InvalidPrime : List Value} {sn_InvalidPrime : List Str} {ab_InvalidPrime : Bool} {col_InvalidPrime : Option Bool} {dd_InvalidPrime : Option Addr} {u0_InvalidPrime u1_InvalidPrime u2_InvalidPrime u3_InvalidPrime u5_InvalidPrime : Option Value}
    (a_is_whole : PySem.W.nsIn K mainGlobals "is_whole" = some (some (.ref f_is_whole)))
    (l_is_whole : K.lookup f_is_whole = some ⟨oc_is_whole, od_is_whole, .func (PySem.W.fnOf "is_whole" "is_whole" (defArgs s_is_whole) (defBody s_is_whole) (defScope s_is_whole) .none kV_is_whole dc_is_whole pm_is_whole an_is_whole cd_is_whole ct_is_whole), sl_is_whole⟩)
    (c_is_whole : PySem.W.codeIn K cd_is_whole "is_whole" = true)
    (k_is_whole : PySem.W.keepIn K (.ref f_is_whole) = true)
    (a_is_between : PySem.W.nsIn K mainGlobals "is_between" = some (some (.ref f_is_between)))
    (l_is_between : K.lookup f_is_between = some ⟨oc_is_between, od_is_between, .func (PySem.W.fnOf "is_between" "is_between" (defArgs s_is_between) (defBody s_is_between) (defScope s_is_between) .none kV_is_between dc_is_between pm_is_between an_is_between cd_is_between ct_is_between), sl_is_between⟩)
    (c_is_between : PySem.W.codeIn K cd_is_between "is_between" = true)
    (k_is_between : PySem.W.keepIn K (.ref f_is_between) = true)
    (a_is_list : PySem.W.nsIn K mainGlobals "is_list" = some (some (.ref f_is_list)))
    (l_is_list : K.lookup f_is_list = some ⟨oc_is_list, od_is_list, .func (PySem.W.fnOf "is_list" "is_list" (defArgs s_is_list) (defBody s_is_list) (defScope s_is_list) .none kV_is_list dc_is_list pm_is_list an_is_list cd_is_list ct_is_list), sl_is_list⟩)
    (c_is_list : PySem.W.codeIn K cd_is_list "is_list" = true)
    (k_is_list : PySem.W.keepIn K (.ref f_is_list) = true)
    (a_check_number : PySem.W.nsIn K mainGlobals "check_number" = some (some (.ref f_check_number)))
    (l_check_number : K.lookup f_check_number = some ⟨oc_check_number, od_check_number, .func (PySem.W.fnOf "check_number" "check_number" (defArgs s_check_number) (defBody s_check_number) (defScope s_check_number) .none kV_check_number dc_check_number pm_check_number an_check_number cd_check_number ct_check_number), sl_check_number⟩)
    (c_check_number : PySem.W.codeIn K cd_check_number "check_number" = true)
    (k_check_number : PySem.W.keepIn K (.ref f_check_number) = true)
    (a_check_modulus : PySem.W.nsIn K mainGlobals "check_modulus" = some (some (.ref f_check_modulus)))
    (l_check_modulus : K.lookup f_check_modulus = some ⟨oc_check_modulus, od_check_modulus, .func (PySem.W.fnOf "check_modulus" "check_modulus" (defArgs s_check_modulus) (defBody s_check_modulus) (defScope s_check_modulus) .none kV_check_modulus dc_check_modulus pm_check_modulus an_check_modulus cd_check_modulus ct_check_modulus), sl_check_modulus⟩)
    (c_check_modulus : PySem.W.codeIn K cd_check_modulus "check_modulus" = true)
    (k_check_modulus : PySem.W.keepIn K (.ref f_check_modulus) = true)
    (a_wrapped : PySem.W.nsIn K mainGlobals "wrapped" = some (some (.ref f_wrapped)))
    (l_wrapped : K.lookup f_wrapped = some ⟨oc_wrapped, od_wrapped, .func (PySem.W.fnOf "wrapped" "wrapped" (defArgs s_wrapped) (defBody s_wrapped) (defScope s_wrapped) .none kV_wrapped dc_wrapped pm_wrapped an_wrapped cd_wrapped ct_wrapped), sl_wrapped⟩)
    (c_wrapped : PySem.W.codeIn K cd_wrapped "wrapped" = true)
    (k_wrapped : PySem.W.keepIn K (.ref f_wrapped) = true)
    (a_divides : PySem.W.nsIn K mainGlobals "divides" = some (some (.ref f_divides)))
    (l_divides : K.lookup f_divides = some ⟨oc_divides, od_divides, .func (PySem.W.fnOf "divides" "divides" (defArgs s_divides) (defBody s_divides) (defScope s_divides) .none kV_divides dc_divides pm_divides an_divides cd_divides ct_divides), sl_divides⟩)
    (c_divides : PySem.W.codeIn K cd_divides "divides" = true)
    (k_divides : PySem.W.keepIn K (.ref f_divides) = true)
    (a_common_of : PySem.W.nsIn K mainGlobals "common_of" = some (some (.ref f_common_of)))
    (l_common_of : K.lookup f_common_of = some ⟨oc_common_of, od_common_of, .func (PySem.W.fnOf "common_of" "common_of" (defArgs s_common_of) (defBody s_common_of) (defScope s_common_of) .none kV_common_of dc_common_of pm_common_of an_common_of cd_common_of ct_common_of), sl_common_of⟩)
    (c_common_of : PySem.W.codeIn K cd_common_of "common_of" = true)
    (k_common_of : PySem.W.keepIn K (.ref f_common_of) = true)
    (a_shared : PySem.W.nsIn K mainGlobals "shared" = some (some (.ref f_shared)))
    (l_shared : K.lookup f_shared = some ⟨oc_shared, od_shared, .func (PySem.W.fnOf "shared" "shared" (defArgs s_shared) (defBody s_shared) (defScope s_shared) .none kV_shared dc_shared pm_shared an_shared cd_shared ct_shared), sl_shared⟩)
    (c_shared : PySem.W.codeIn K cd_shared "shared" = true)
    (k_shared : PySem.W.keepIn K (.ref f_shared) = true)
    (a_inverse_in : PySem.W.nsIn K mainGlobals "inverse_in" = some (some (.ref f_inverse_in)))
    (l_inverse_in : K.lookup f_inverse_in = some ⟨oc_inverse_in, od_inverse_in, .func (PySem.W.fnOf "inverse_in" "inverse_in" (defArgs s_inverse_in) (defBody s_inverse_in) (defScope s_inverse_in) .none kV_inverse_in dc_inverse_in pm_inverse_in an_inverse_in cd_inverse_in ct_inverse_in), sl_inverse_in⟩)
    (c_inverse_in : PySem.W.codeIn K cd_inverse_in "inverse_in" = true)
    (k_inverse_in : PySem.W.keepIn K (.ref f_inverse_in) = true)
    (a_rest : PySem.W.nsIn K mainGlobals "rest" = some (some (.ref f_rest)))
    (l_rest : K.lookup f_rest = some ⟨oc_rest, od_rest, .func (PySem.W.fnOf "rest" "rest" (defArgs s_rest) (defBody s_rest) (defScope s_rest) .none kV_rest dc_rest pm_rest an_rest cd_rest ct_rest), sl_rest⟩)
    (c_rest : PySem.W.codeIn K cd_rest "rest" = true)
    (k_rest : PySem.W.keepIn K (.ref f_rest) = true)
    (a_same : PySem.W.nsIn K mainGlobals "same" = some (some (.ref f_same)))
    (l_same : K.lookup f_same = some ⟨oc_same, od_same, .func (PySem.W.fnOf "same" "same" (defArgs s_same) (defBody s_same) (defScope s_same) .none kV_same dc_same pm_same an_same cd_same ct_same), sl_same⟩)
    (c_same : PySem.W.codeIn K cd_same "same" = true)
    (k_same : PySem.W.keepIn K (.ref f_same) = true)
    (a_check_numbers : PySem.W.nsIn K mainGlobals "check_numbers" = some (some (.ref f_check_numbers)))
    (l_check_numbers : K.lookup f_check_numbers = some ⟨oc_check_numbers, od_check_numbers, .func (PySem.W.fnOf "check_numbers" "check_numbers" (defArgs s_check_numbers) (defBody s_check_numbers) (defScope s_check_numbers) .none kV_check_numbers dc_check_numbers pm_check_numbers an_check_numbers cd_check_numbers ct_check_numbers), sl_check_numbers⟩)
    (c_check_numbers : PySem.W.codeIn K cd_check_numbers "check_numbers" = true)
    (k_check_numbers : PySem.W.keepIn K (.ref f_check_numbers) = true)
    (a_common : PySem.W.nsIn K mainGlobals "common" = some (some (.ref f_common)))
    (l_common : K.lookup f_common = some ⟨oc_common, od_common, .func (PySem.W.fnOf "common" "common" (defArgs s_common) (defBody s_common) (defScope s_common) .none kV_common dc_common pm_common an_common cd_common ct_common), sl_common⟩)
    (c_common : PySem.W.codeIn K cd_common "common" = true)
    (k_common : PySem.W.keepIn K (.ref f_common) = true)
    (a_least_multiple : PySem.W.nsIn K mainGlobals "least_multiple" = some (some (.ref f_least_multiple)))
    (l_least_multiple : K.lookup f_least_multiple = some ⟨oc_least_multiple, od_least_multiple, .func (PySem.W.fnOf "least_multiple" "least_multiple" (defArgs s_least_multiple) (defBody s_least_multiple) (defScope s_least_multiple) .none kV_least_multiple dc_least_multiple pm_least_multiple an_least_multiple cd_least_multiple ct_least_multiple), sl_least_multiple⟩)
    (c_least_multiple : PySem.W.codeIn K cd_least_multiple "least_multiple" = true)
    (k_least_multiple : PySem.W.keepIn K (.ref f_least_multiple) = true)
    (a_bezout : PySem.W.nsIn K mainGlobals "bezout" = some (some (.ref f_bezout)))
    (l_bezout : K.lookup f_bezout = some ⟨oc_bezout, od_bezout, .func (PySem.W.fnOf "bezout" "bezout" (defArgs s_bezout) (defBody s_bezout) (defScope s_bezout) .none kV_bezout dc_bezout pm_bezout an_bezout cd_bezout ct_bezout), sl_bezout⟩)
    (c_bezout : PySem.W.codeIn K cd_bezout "bezout" = true)
    (k_bezout : PySem.W.keepIn K (.ref f_bezout) = true)
    (a_inverse : PySem.W.nsIn K mainGlobals "inverse" = some (some (.ref f_inverse)))
    (l_inverse : K.lookup f_inverse = some ⟨oc_inverse, od_inverse, .func (PySem.W.fnOf "inverse" "inverse" (defArgs s_inverse) (defBody s_inverse) (defScope s_inverse) .none kV_inverse dc_inverse pm_inverse an_inverse cd_inverse ct_inverse), sl_inverse⟩)
    (c_inverse : PySem.W.codeIn K cd_inverse "inverse" = true)
    (k_inverse : PySem.W.keepIn K (.ref f_inverse) = true)
    (a_factors_of : PySem.W.nsIn K mainGlobals "factors_of" = some (some (.ref f_factors_of)))
    (l_factors_of : K.lookup f_factors_of = some ⟨oc_factors_of, od_factors_of, .func (PySem.W.fnOf "factors_of" "factors_of" (defArgs s_factors_of) (defBody s_factors_of) (defScope s_factors_of) .none kV_factors_of dc_factors_of pm_factors_of an_factors_of cd_factors_of ct_factors_of), sl_factors_of⟩)
    (c_factors_of : PySem.W.codeIn K cd_factors_of "factors_of" = true)
    (k_factors_of : PySem.W.keepIn K (.ref f_factors_of) = true)
    (a_primes_in : PySem.W.nsIn K mainGlobals "primes_in" = some (some (.ref f_primes_in)))
    (l_primes_in : K.lookup f_primes_in = some ⟨oc_primes_in, od_primes_in, .func (PySem.W.fnOf "primes_in" "primes_in" (defArgs s_primes_in) (defBody s_primes_in) (defScope s_primes_in) .none kV_primes_in dc_primes_in pm_primes_in an_primes_in cd_primes_in ct_primes_in), sl_primes_in⟩)
    (c_primes_in : PySem.W.codeIn K cd_primes_in "primes_in" = true)
    (k_primes_in : PySem.W.keepIn K (.ref f_primes_in) = true)
    (a_is_prime : PySem.W.nsIn K mainGlobals "is_prime" = some (some (.ref f_is_prime)))
    (l_is_prime : K.lookup f_is_prime = some ⟨oc_is_prime, od_is_prime, .func (PySem.W.fnOf "is_prime" "is_prime" (defArgs s_is_prime) (defBody s_is_prime) (defScope s_is_prime) .none kV_is_prime dc_is_prime pm_is_prime an_is_prime cd_is_prime ct_is_prime), sl_is_prime⟩)
    (c_is_prime : PySem.W.codeIn K cd_is_prime "is_prime" = true)
    (k_is_prime : PySem.W.keepIn K (.ref f_is_prime) = true)
    (a_power_in : PySem.W.nsIn K mainGlobals "power_in" = some (some (.ref f_power_in)))
    (l_power_in : K.lookup f_power_in = some ⟨oc_power_in, od_power_in, .func (PySem.W.fnOf "power_in" "power_in" (defArgs s_power_in) (defBody s_power_in) (defScope s_power_in) .none kV_power_in dc_power_in pm_power_in an_power_in cd_power_in ct_power_in), sl_power_in⟩)
    (c_power_in : PySem.W.codeIn K cd_power_in "power_in" = true)
    (k_power_in : PySem.W.keepIn K (.ref f_power_in) = true)
    (a_valuation : PySem.W.nsIn K mainGlobals "valuation" = some (some (.ref f_valuation)))
    (l_valuation : K.lookup f_valuation = some ⟨oc_valuation, od_valuation, .func (PySem.W.fnOf "valuation" "valuation" (defArgs s_valuation) (defBody s_valuation) (defScope s_valuation) .none kV_valuation dc_valuation pm_valuation an_valuation cd_valuation ct_valuation), sl_valuation⟩)
    (c_valuation : PySem.W.codeIn K cd_valuation "valuation" = true)
    (k_valuation : PySem.W.keepIn K (.ref f_valuation) = true)
    (a_law_box : PySem.W.nsIn K mainGlobals "_law_box" = some (some (.ref f_law_box)))
    (l_law_box : K.lookup f_law_box = some ⟨oc_law_box, od_law_box, .func (PySem.W.fnOf "_law_box" "_law_box" (defArgs s_law_box) (defBody s_law_box) (defScope s_law_box) .none kV_law_box dc_law_box pm_law_box an_law_box cd_law_box ct_law_box), sl_law_box⟩)
    (c_law_box : PySem.W.codeIn K cd_law_box "_law_box" = true)
    (k_law_box : PySem.W.keepIn K (.ref f_law_box) = true)
    (a_law_take : PySem.W.nsIn K mainGlobals "_law_take" = some (some (.ref f_law_take)))
    (l_law_take : K.lookup f_law_take = some ⟨oc_law_take, od_law_take, .func (PySem.W.fnOf "_law_take" "_law_take" (defArgs s_law_take) (defBody s_law_take) (defScope s_law_take) .none kV_law_take dc_law_take pm_law_take an_law_take cd_law_take ct_law_take), sl_law_take⟩)
    (c_law_take : PySem.W.codeIn K cd_law_take "_law_take" = true)
    (k_law_take : PySem.W.keepIn K (.ref f_law_take) = true)
    (a_law_cell : PySem.W.nsIn K mainGlobals "_law_cell" = some (some (.ref f_law_cell)))
    (l_law_cell : K.lookup f_law_cell = some ⟨oc_law_cell, od_law_cell, .func (PySem.W.fnOf "_law_cell" "_law_cell" (defArgs s_law_cell) (defBody s_law_cell) (defScope s_law_cell) .none kV_law_cell dc_law_cell pm_law_cell an_law_cell cd_law_cell ct_law_cell), sl_law_cell⟩)
    (c_law_cell : PySem.W.codeIn K cd_law_cell "_law_cell" = true)
    (k_law_cell : PySem.W.keepIn K (.ref f_law_cell) = true)
    (a_law_common : PySem.W.nsIn K mainGlobals "_law_common" = some (some (.ref f_law_common)))
    (l_law_common : K.lookup f_law_common = some ⟨oc_law_common, od_law_common, .func (PySem.W.fnOf "_law_common" "_law_common" (defArgs s_law_common) (defBody s_law_common) (defScope s_law_common) .none kV_law_common dc_law_common pm_law_common an_law_common cd_law_common ct_law_common), sl_law_common⟩)
    (c_law_common : PySem.W.codeIn K cd_law_common "_law_common" = true)
    (k_law_common : PySem.W.keepIn K (.ref f_law_common) = true)
    (a_law_all_common : PySem.W.nsIn K mainGlobals "_law_all_common" = some (some (.ref f_law_all_common)))
    (l_law_all_common : K.lookup f_law_all_common = some ⟨oc_law_all_common, od_law_all_common, .func (PySem.W.fnOf "_law_all_common" "_law_all_common" (defArgs s_law_all_common) (defBody s_law_all_common) (defScope s_law_all_common) .none kV_law_all_common dc_law_all_common pm_law_all_common an_law_all_common cd_law_all_common ct_law_all_common), sl_law_all_common⟩)
    (c_law_all_common : PySem.W.codeIn K cd_law_all_common "_law_all_common" = true)
    (k_law_all_common : PySem.W.keepIn K (.ref f_law_all_common) = true)
    (a_law_same : PySem.W.nsIn K mainGlobals "_law_same" = some (some (.ref f_law_same)))
    (l_law_same : K.lookup f_law_same = some ⟨oc_law_same, od_law_same, .func (PySem.W.fnOf "_law_same" "_law_same" (defArgs s_law_same) (defBody s_law_same) (defScope s_law_same) .none kV_law_same dc_law_same pm_law_same an_law_same cd_law_same ct_law_same), sl_law_same⟩)
    (c_law_same : PySem.W.codeIn K cd_law_same "_law_same" = true)
    (k_law_same : PySem.W.keepIn K (.ref f_law_same) = true)
    (a_law_integer : PySem.W.nsIn K mainGlobals "_law_integer" = some (some (.ref f_law_integer)))
    (l_law_integer : K.lookup f_law_integer = some ⟨oc_law_integer, od_law_integer, .func (PySem.W.fnOf "_law_integer" "_law_integer" (defArgs s_law_integer) (defBody s_law_integer) (defScope s_law_integer) .none kV_law_integer dc_law_integer pm_law_integer an_law_integer cd_law_integer ct_law_integer), sl_law_integer⟩)
    (c_law_integer : PySem.W.codeIn K cd_law_integer "_law_integer" = true)
    (k_law_integer : PySem.W.keepIn K (.ref f_law_integer) = true)
    (a_law_modulus : PySem.W.nsIn K mainGlobals "_law_modulus" = some (some (.ref f_law_modulus)))
    (l_law_modulus : K.lookup f_law_modulus = some ⟨oc_law_modulus, od_law_modulus, .func (PySem.W.fnOf "_law_modulus" "_law_modulus" (defArgs s_law_modulus) (defBody s_law_modulus) (defScope s_law_modulus) .none kV_law_modulus dc_law_modulus pm_law_modulus an_law_modulus cd_law_modulus ct_law_modulus), sl_law_modulus⟩)
    (c_law_modulus : PySem.W.codeIn K cd_law_modulus "_law_modulus" = true)
    (k_law_modulus : PySem.W.keepIn K (.ref f_law_modulus) = true)
    (a_law_left : PySem.W.nsIn K mainGlobals "_law_left" = some (some (.ref f_law_left)))
    (l_law_left : K.lookup f_law_left = some ⟨oc_law_left, od_law_left, .func (PySem.W.fnOf "_law_left" "_law_left" (defArgs s_law_left) (defBody s_law_left) (defScope s_law_left) .none kV_law_left dc_law_left pm_law_left an_law_left cd_law_left ct_law_left), sl_law_left⟩)
    (c_law_left : PySem.W.codeIn K cd_law_left "_law_left" = true)
    (k_law_left : PySem.W.keepIn K (.ref f_law_left) = true)
    (a_law_still : PySem.W.nsIn K mainGlobals "_law_still" = some (some (.ref f_law_still)))
    (l_law_still : K.lookup f_law_still = some ⟨oc_law_still, od_law_still, .func (PySem.W.fnOf "_law_still" "_law_still" (defArgs s_law_still) (defBody s_law_still) (defScope s_law_still) .none kV_law_still dc_law_still pm_law_still an_law_still cd_law_still ct_law_still), sl_law_still⟩)
    (c_law_still : PySem.W.codeIn K cd_law_still "_law_still" = true)
    (k_law_still : PySem.W.keepIn K (.ref f_law_still) = true)
    (a_law_call : PySem.W.nsIn K mainGlobals "_law_call" = some (some (.ref f_law_call)))
    (l_law_call : K.lookup f_law_call = some ⟨oc_law_call, od_law_call, .func (PySem.W.fnOf "_law_call" "_law_call" (defArgs s_law_call) (defBody s_law_call) (defScope s_law_call) .none kV_law_call dc_law_call pm_law_call an_law_call cd_law_call ct_law_call), sl_law_call⟩)
    (c_law_call : PySem.W.codeIn K cd_law_call "_law_call" = true)
    (k_law_call : PySem.W.keepIn K (.ref f_law_call) = true)
    (a_law_multiple : PySem.W.nsIn K mainGlobals "_law_multiple" = some (some (.ref f_law_multiple)))
    (l_law_multiple : K.lookup f_law_multiple = some ⟨oc_law_multiple, od_law_multiple, .func (PySem.W.fnOf "_law_multiple" "_law_multiple" (defArgs s_law_multiple) (defBody s_law_multiple) (defScope s_law_multiple) .none kV_law_multiple dc_law_multiple pm_law_multiple an_law_multiple cd_law_multiple ct_law_multiple), sl_law_multiple⟩)
    (c_law_multiple : PySem.W.codeIn K cd_law_multiple "_law_multiple" = true)
    (k_law_multiple : PySem.W.keepIn K (.ref f_law_multiple) = true)
    (a_law_numbers_right : PySem.W.nsIn K mainGlobals "_law_numbers_right" = some (some (.ref f_law_numbers_right)))
    (l_law_numbers_right : K.lookup f_law_numbers_right = some ⟨oc_law_numbers_right, od_law_numbers_right, .func (PySem.W.fnOf "_law_numbers_right" "_law_numbers_right" (defArgs s_law_numbers_right) (defBody s_law_numbers_right) (defScope s_law_numbers_right) .none kV_law_numbers_right dc_law_numbers_right pm_law_numbers_right an_law_numbers_right cd_law_numbers_right ct_law_numbers_right), sl_law_numbers_right⟩)
    (c_law_numbers_right : PySem.W.codeIn K cd_law_numbers_right "_law_numbers_right" = true)
    (k_law_numbers_right : PySem.W.keepIn K (.ref f_law_numbers_right) = true)
    (a_law_lists_right : PySem.W.nsIn K mainGlobals "_law_lists_right" = some (some (.ref f_law_lists_right)))
    (l_law_lists_right : K.lookup f_law_lists_right = some ⟨oc_law_lists_right, od_law_lists_right, .func (PySem.W.fnOf "_law_lists_right" "_law_lists_right" (defArgs s_law_lists_right) (defBody s_law_lists_right) (defScope s_law_lists_right) .none kV_law_lists_right dc_law_lists_right pm_law_lists_right an_law_lists_right cd_law_lists_right ct_law_lists_right), sl_law_lists_right⟩)
    (c_law_lists_right : PySem.W.codeIn K cd_law_lists_right "_law_lists_right" = true)
    (k_law_lists_right : PySem.W.keepIn K (.ref f_law_lists_right) = true)
    (a_law_primes_right : PySem.W.nsIn K mainGlobals "_law_primes_right" = some (some (.ref f_law_primes_right)))
    (l_law_primes_right : K.lookup f_law_primes_right = some ⟨oc_law_primes_right, od_law_primes_right, .func (PySem.W.fnOf "_law_primes_right" "_law_primes_right" (defArgs s_law_primes_right) (defBody s_law_primes_right) (defScope s_law_primes_right) .none kV_law_primes_right dc_law_primes_right pm_law_primes_right an_law_primes_right cd_law_primes_right ct_law_primes_right), sl_law_primes_right⟩)
    (c_law_primes_right : PySem.W.codeIn K cd_law_primes_right "_law_primes_right" = true)
    (k_law_primes_right : PySem.W.keepIn K (.ref f_law_primes_right) = true)
    (a_law_refused_right : PySem.W.nsIn K mainGlobals "_law_refused_right" = some (some (.ref f_law_refused_right)))
    (l_law_refused_right : K.lookup f_law_refused_right = some ⟨oc_law_refused_right, od_law_refused_right, .func (PySem.W.fnOf "_law_refused_right" "_law_refused_right" (defArgs s_law_refused_right) (defBody s_law_refused_right) (defScope s_law_refused_right) .none kV_law_refused_right dc_law_refused_right pm_law_refused_right an_law_refused_right cd_law_refused_right ct_law_refused_right), sl_law_refused_right⟩)
    (c_law_refused_right : PySem.W.codeIn K cd_law_refused_right "_law_refused_right" = true)
    (k_law_refused_right : PySem.W.keepIn K (.ref f_law_refused_right) = true)
    (a_law_scene_right : PySem.W.nsIn K mainGlobals "_law_scene_right" = some (some (.ref f_law_scene_right)))
    (l_law_scene_right : K.lookup f_law_scene_right = some ⟨oc_law_scene_right, od_law_scene_right, .func (PySem.W.fnOf "_law_scene_right" "_law_scene_right" (defArgs s_law_scene_right) (defBody s_law_scene_right) (defScope s_law_scene_right) .none kV_law_scene_right dc_law_scene_right pm_law_scene_right an_law_scene_right cd_law_scene_right ct_law_scene_right), sl_law_scene_right⟩)
    (c_law_scene_right : PySem.W.codeIn K cd_law_scene_right "_law_scene_right" = true)
    (k_law_scene_right : PySem.W.keepIn K (.ref f_law_scene_right) = true)
    (a_law : PySem.W.nsIn K mainGlobals "law" = some (some (.ref f_law)))
    (l_law : K.lookup f_law = some ⟨oc_law, od_law, .func (PySem.W.fnOf "law" "law" (defArgs s_law) (defBody s_law) (defScope s_law) .none kV_law dc_law pm_law an_law cd_law ct_law), sl_law⟩)
    (c_law : PySem.W.codeIn K cd_law "law" = true)
    (k_law : PySem.W.keepIn K (.ref f_law) = true)
    (z_isinstance : PySem.W.nsIn K mainGlobals "isinstance" = some none)
    (z_int : PySem.W.nsIn K mainGlobals "int" = some none)
    (z_bool : PySem.W.nsIn K mainGlobals "bool" = some none)
    (z_str : PySem.W.nsIn K mainGlobals "str" = some none)
    (z_list : PySem.W.nsIn K mainGlobals "list" = some none)
    (z_tuple : PySem.W.nsIn K mainGlobals "tuple" = some none)
    (z_dict : PySem.W.nsIn K mainGlobals "dict" = some none)
    (z_len : PySem.W.nsIn K mainGlobals "len" = some none)
    (z_all : PySem.W.nsIn K mainGlobals "all" = some none)
    (z_sum : PySem.W.nsIn K mainGlobals "sum" = some none)
    (z_zip : PySem.W.nsIn K mainGlobals "zip" = some none)
    (z_range : PySem.W.nsIn K mainGlobals "range" = some none)
    (z_abs : PySem.W.nsIn K mainGlobals "abs" = some none)
    (z_max : PySem.W.nsIn K mainGlobals "max" = some none)
    (z_min : PySem.W.nsIn K mainGlobals "min" = some none)
    (z_sorted : PySem.W.nsIn K mainGlobals "sorted" = some none)
    (z_gcd : PySem.W.nsIn K mainGlobals "gcd" = some (some (.builtin "math.gcd")))
    (g_MOST_TRIED : PySem.W.nsIn K mainGlobals "MOST_TRIED" = some (some (.int 1000000 tk_MOST_TRIED)))
    (aW : PySem.W.nsIn K mainGlobals "WrapError" = some (some (.ref D)))
    (xW : K.lookup D = some (excClassObj nmD qD D ND bsD PySem.WrX.veTail true snD subD abD colD ddD w0 w1 w2 w3 w5 "ValueError.__new__"))
    (iW : PySem.W.findIn K (.ref D) "__init__" = some (some (.ref fI)))
    (lI : K.lookup fI = some ⟨iOc, iod, .func (PySem.W.ksFn "__init__" "WrapError.__init__" (PySem.WrX.iA p1 p2 p3) (PySem.WrX.iB q1 q2 q3 q4 q5 q6 q7 q8 q9 q10) PySem.WrX.iS (.ref Td) ikV idoc ipm ian (.ref cda) ict cc), iosl⟩)
    (cI : PySem.W.codeIn K (.ref cda) "WrapError.__init__" = true)
    (lcd : K.lookup cda = some ⟨ccl, cdd, .fields vs, ccs⟩)
    (hvs : vs[2]? = some (.str file tf))
    (hfile : ((P.main.file : Str) == file) = true)
    (lcc : K.lookup cc = some ⟨cl, cld, .cell (some (.ref D)), csl⟩)
    (lT : K.lookup Td = some ⟨tc, td, .seq #[.none] nT, tsl⟩)
    (hline : (q3.endLine == q5.line) = true)
    (mS : PySem.W.nsIn K mainGlobals "super" = some none)
    (top_ : (P.main.scope.names.lookup ("super" : Str)).isSome = false)
    (any_ : PySem.W.nsIn K cStatics "thirdparty.any" = some none)
    (a_InvalidNumber : PySem.W.nsIn K mainGlobals "InvalidNumber" = some (some (.ref C_InvalidNumber)))
    (x_InvalidNumber : K.lookup C_InvalidNumber = some (excClassObj nm_InvalidNumber q_InvalidNumber C_InvalidNumber N_InvalidNumber bs_InvalidNumber (.ref D :: PySem.WrX.veTail) true sn_InvalidNumber su_InvalidNumber ab_InvalidNumber col_InvalidNumber dd_InvalidNumber u0_InvalidNumber u1_InvalidNumber u2_InvalidNumber u3_InvalidNumber u5_InvalidNumber "ValueError.__new__"))
    (sa_InvalidNumber : PySem.W.findIn K (.ref C_InvalidNumber) "__setattr__" = some (some (.builtin "object.__setattr__")))
    (nn_InvalidNumber : PySem.W.findIn K (.ref C_InvalidNumber) "given" = some none)
    (ii_InvalidNumber : PySem.W.findIn K (.ref C_InvalidNumber) "__init__" = some (some (.ref fI)))
    (kc_InvalidNumber : PySem.W.keepIn K (.ref C_InvalidNumber) = true)
    (se_InvalidNumber : PySem.W.subIn K (.ref C_InvalidNumber) (.type "BaseException") = some true)
    (sv_InvalidNumber : PySem.W.subIn K (.ref C_InvalidNumber) (.type "ValueError") = some true)
    (ty_InvalidNumber : PySem.W.typeIn K (.ref C_InvalidNumber) = some (.type "type"))
    (ne_InvalidNumber : C_InvalidNumber ≠ D)
    (ga_InvalidNumber : PySem.W.findIn K (.ref C_InvalidNumber) "__getattribute__" = some (some (.builtin "BaseException.__getattribute__")))
    (gg_InvalidNumber : PySem.W.findIn K (.ref C_InvalidNumber) "__getattr__" = some none)
    (hd_InvalidNumber : PySem.W.hasDictIn K C_InvalidNumber = true)
    (ic_InvalidNumber : PySem.W.isClsIn K C_InvalidNumber = true)
    (a_InvalidNumbers : PySem.W.nsIn K mainGlobals "InvalidNumbers" = some (some (.ref C_InvalidNumbers)))
    (x_InvalidNumbers : K.lookup C_InvalidNumbers = some (excClassObj nm_InvalidNumbers q_InvalidNumbers C_InvalidNumbers N_InvalidNumbers bs_InvalidNumbers (.ref D :: PySem.WrX.veTail) true sn_InvalidNumbers su_InvalidNumbers ab_InvalidNumbers col_InvalidNumbers dd_InvalidNumbers u0_InvalidNumbers u1_InvalidNumbers u2_InvalidNumbers u3_InvalidNumbers u5_InvalidNumbers "ValueError.__new__"))
    (sa_InvalidNumbers : PySem.W.findIn K (.ref C_InvalidNumbers) "__setattr__" = some (some (.builtin "object.__setattr__")))
    (nn_InvalidNumbers : PySem.W.findIn K (.ref C_InvalidNumbers) "given" = some none)
    (ii_InvalidNumbers : PySem.W.findIn K (.ref C_InvalidNumbers) "__init__" = some (some (.ref fI)))
    (kc_InvalidNumbers : PySem.W.keepIn K (.ref C_InvalidNumbers) = true)
    (se_InvalidNumbers : PySem.W.subIn K (.ref C_InvalidNumbers) (.type "BaseException") = some true)
    (sv_InvalidNumbers : PySem.W.subIn K (.ref C_InvalidNumbers) (.type "ValueError") = some true)
    (ty_InvalidNumbers : PySem.W.typeIn K (.ref C_InvalidNumbers) = some (.type "type"))
    (ne_InvalidNumbers : C_InvalidNumbers ≠ D)
    (ga_InvalidNumbers : PySem.W.findIn K (.ref C_InvalidNumbers) "__getattribute__" = some (some (.builtin "BaseException.__getattribute__")))
    (gg_InvalidNumbers : PySem.W.findIn K (.ref C_InvalidNumbers) "__getattr__" = some none)
    (hd_InvalidNumbers : PySem.W.hasDictIn K C_InvalidNumbers = true)
    (ic_InvalidNumbers : PySem.W.isClsIn K C_InvalidNumbers = true)
    (a_InvalidModulus : PySem.W.nsIn K mainGlobals "InvalidModulus" = some (some (.ref C_InvalidModulus)))
    (x_InvalidModulus : K.lookup C_InvalidModulus = some (excClassObj nm_InvalidModulus q_InvalidModulus C_InvalidModulus N_InvalidModulus bs_InvalidModulus (.ref D :: PySem.WrX.veTail) true sn_InvalidModulus su_InvalidModulus ab_InvalidModulus col_InvalidModulus dd_InvalidModulus u0_InvalidModulus u1_InvalidModulus u2_InvalidModulus u3_InvalidModulus u5_InvalidModulus "ValueError.__new__"))
    (sa_InvalidModulus : PySem.W.findIn K (.ref C_InvalidModulus) "__setattr__" = some (some (.builtin "object.__setattr__")))
    (nn_InvalidModulus : PySem.W.findIn K (.ref C_InvalidModulus) "given" = some none)
    (ii_InvalidModulus : PySem.W.findIn K (.ref C_InvalidModulus) "__init__" = some (some (.ref fI)))
    (kc_InvalidModulus : PySem.W.keepIn K (.ref C_InvalidModulus) = true)
    (se_InvalidModulus : PySem.W.subIn K (.ref C_InvalidModulus) (.type "BaseException") = some true)
    (sv_InvalidModulus : PySem.W.subIn K (.ref C_InvalidModulus) (.type "ValueError") = some true)
    (ty_InvalidModulus : PySem.W.typeIn K (.ref C_InvalidModulus) = some (.type "type"))
    (ne_InvalidModulus : C_InvalidModulus ≠ D)
    (ga_InvalidModulus : PySem.W.findIn K (.ref C_InvalidModulus) "__getattribute__" = some (some (.builtin "BaseException.__getattribute__")))
    (gg_InvalidModulus : PySem.W.findIn K (.ref C_InvalidModulus) "__getattr__" = some none)
    (hd_InvalidModulus : PySem.W.hasDictIn K C_InvalidModulus = true)
    (ic_InvalidModulus : PySem.W.isClsIn K C_InvalidModulus = true)
    (a_InvalidPrime : PySem.W.nsIn K mainGlobals "InvalidPrime" = some (some (.ref C_InvalidPrime)))
    (x_InvalidPrime : K.lookup C_InvalidPrime = some (excClassObj nm_InvalidPrime q_InvalidPrime C_InvalidPrime N_InvalidPrime bs_InvalidPrime (.ref D :: PySem.WrX.veTail) true sn_InvalidPrime su_InvalidPrime ab_InvalidPrime col_InvalidPrime dd_InvalidPrime u0_InvalidPrime u1_InvalidPrime u2_InvalidPrime u3_InvalidPrime u5_InvalidPrime "ValueError.__new__"))
    (sa_InvalidPrime : PySem.W.findIn K (.ref C_InvalidPrime) "__setattr__" = some (some (.builtin "object.__setattr__")))
    (nn_InvalidPrime : PySem.W.findIn K (.ref C_InvalidPrime) "given" = some none)
    (ii_InvalidPrime : PySem.W.findIn K (.ref C_InvalidPrime) "__init__" = some (some (.ref fI)))
    (kc_InvalidPrime : PySem.W.keepIn K (.ref C_InvalidPrime) = true)
    (se_InvalidPrime : PySem.W.subIn K (.ref C_InvalidPrime) (.type "BaseException") = some true)
    (sv_InvalidPrime : PySem.W.subIn K (.ref C_InvalidPrime) (.type "ValueError") = some true)
    (ty_InvalidPrime : PySem.W.typeIn K (.ref C_InvalidPrime) = some (.type "type"))
    (ne_InvalidPrime : C_InvalidPrime ≠ D)
    (ga_InvalidPrime : PySem.W.findIn K (.ref C_InvalidPrime) "__getattribute__" = some (some (.builtin "BaseException.__getattribute__")))
    (gg_InvalidPrime : PySem.W.findIn K (.ref C_InvalidPrime) "__getattr__" = some none)
    (hd_InvalidPrime : PySem.W.hasDictIn K C_InvalidPrime = true)
    (ic_InvalidPrime : PySem.W.isClsIn K C_InvalidPrime = true)
    (tI : PySem.W.typeIn K (.ref fI) = some (.type "function"))
    (s_InvalidNumber_InvalidNumber : PySem.W.subIn K (.ref C_InvalidNumber) (.ref C_InvalidNumber) = some true)
    (s_InvalidNumber_InvalidNumbers : PySem.W.subIn K (.ref C_InvalidNumber) (.ref C_InvalidNumbers) = some false)
    (s_InvalidNumber_InvalidModulus : PySem.W.subIn K (.ref C_InvalidNumber) (.ref C_InvalidModulus) = some false)
    (s_InvalidNumber_InvalidPrime : PySem.W.subIn K (.ref C_InvalidNumber) (.ref C_InvalidPrime) = some false)
    (s_InvalidNumbers_InvalidNumber : PySem.W.subIn K (.ref C_InvalidNumbers) (.ref C_InvalidNumber) = some false)
    (s_InvalidNumbers_InvalidNumbers : PySem.W.subIn K (.ref C_InvalidNumbers) (.ref C_InvalidNumbers) = some true)
    (s_InvalidNumbers_InvalidModulus : PySem.W.subIn K (.ref C_InvalidNumbers) (.ref C_InvalidModulus) = some false)
    (s_InvalidNumbers_InvalidPrime : PySem.W.subIn K (.ref C_InvalidNumbers) (.ref C_InvalidPrime) = some false)
    (s_InvalidModulus_InvalidNumber : PySem.W.subIn K (.ref C_InvalidModulus) (.ref C_InvalidNumber) = some false)
    (s_InvalidModulus_InvalidNumbers : PySem.W.subIn K (.ref C_InvalidModulus) (.ref C_InvalidNumbers) = some false)
    (s_InvalidModulus_InvalidModulus : PySem.W.subIn K (.ref C_InvalidModulus) (.ref C_InvalidModulus) = some true)
    (s_InvalidModulus_InvalidPrime : PySem.W.subIn K (.ref C_InvalidModulus) (.ref C_InvalidPrime) = some false)
    (s_InvalidPrime_InvalidNumber : PySem.W.subIn K (.ref C_InvalidPrime) (.ref C_InvalidNumber) = some false)
    (s_InvalidPrime_InvalidNumbers : PySem.W.subIn K (.ref C_InvalidPrime) (.ref C_InvalidNumbers) = some false)
    (s_InvalidPrime_InvalidModulus : PySem.W.subIn K (.ref C_InvalidPrime) (.ref C_InvalidModulus) = some false)
    (s_InvalidPrime_InvalidPrime : PySem.W.subIn K (.ref C_InvalidPrime) (.ref C_InvalidPrime) = some true) :
    ∃ fd : FuncData, (∀ (s : Shared) (v : Value), BindsTo s fd ⟨[v], []⟩ [("script", v)]) ∧ ∀ base : Heap, K.In base → base.Ns mainGlobals mg → FnOk P w K mg base (L2.CX P w) 15 fa fd ["script"] (sp_law K) := by
  have e := hfa.symm.trans (PySem.W.mg_of X G a_law)
  cases e
  have F_is_whole := fun_mk (st := s_is_whole) l_is_whole c_is_whole k_is_whole
  have b_is_whole := F_is_whole.binds (ps := ["value"]) fun _ _ _ _ _ _ us hl => match us, hl with | [_], _ => rfl
  have F_is_between := fun_mk (st := s_is_between) l_is_between c_is_between k_is_between
  have b_is_between := F_is_between.binds (ps := ["value", "least", "most"]) fun _ _ _ _ _ _ us hl => match us, hl with | [_, _, _], _ => rfl
  have F_is_list := fun_mk (st := s_is_list) l_is_list c_is_list k_is_list
  have b_is_list := F_is_list.binds (ps := ["value"]) fun _ _ _ _ _ _ us hl => match us, hl with | [_], _ => rfl
  have F_check_number := fun_mk (st := s_check_number) l_check_number c_check_number k_check_number
  have b_check_number := F_check_number.binds (ps := ["number"]) fun _ _ _ _ _ _ us hl => match us, hl with | [_], _ => rfl
  have F_check_modulus := fun_mk (st := s_check_modulus) l_check_modulus c_check_modulus k_check_modulus
  have b_check_modulus := F_check_modulus.binds (ps := ["modulus"]) fun _ _ _ _ _ _ us hl => match us, hl with | [_], _ => rfl
  have F_wrapped := fun_mk (st := s_wrapped) l_wrapped c_wrapped k_wrapped
  have b_wrapped := F_wrapped.binds (ps := ["number", "modulus"]) fun _ _ _ _ _ _ us hl => match us, hl with | [_, _], _ => rfl
  have F_divides := fun_mk (st := s_divides) l_divides c_divides k_divides
  have b_divides := F_divides.binds (ps := ["modulus", "number"]) fun _ _ _ _ _ _ us hl => match us, hl with | [_, _], _ => rfl
  have F_common_of := fun_mk (st := s_common_of) l_common_of c_common_of k_common_of
  have b_common_of := F_common_of.binds (ps := ["numbers"]) fun _ _ _ _ _ _ us hl => match us, hl with | [_], _ => rfl
  have F_shared := fun_mk (st := s_shared) l_shared c_shared k_shared
  have b_shared := F_shared.binds (ps := ["one", "other"]) fun _ _ _ _ _ _ us hl => match us, hl with | [_, _], _ => rfl
  have F_inverse_in := fun_mk (st := s_inverse_in) l_inverse_in c_inverse_in k_inverse_in
  have b_inverse_in := F_inverse_in.binds (ps := ["number", "modulus"]) fun _ _ _ _ _ _ us hl => match us, hl with | [_, _], _ => rfl
  have F_rest := fun_mk (st := s_rest) l_rest c_rest k_rest
  have b_rest := F_rest.binds (ps := ["number", "modulus"]) fun _ _ _ _ _ _ us hl => match us, hl with | [_, _], _ => rfl
  have F_same := fun_mk (st := s_same) l_same c_same k_same
  have b_same := F_same.binds (ps := ["one", "other", "modulus"]) fun _ _ _ _ _ _ us hl => match us, hl with | [_, _, _], _ => rfl
  have F_check_numbers := fun_mk (st := s_check_numbers) l_check_numbers c_check_numbers k_check_numbers
  have b_check_numbers := F_check_numbers.binds (ps := ["numbers"]) fun _ _ _ _ _ _ us hl => match us, hl with | [_], _ => rfl
  have F_common := fun_mk (st := s_common) l_common c_common k_common
  have b_common := F_common.binds (ps := ["numbers"]) fun _ _ _ _ _ _ us hl => match us, hl with | [_], _ => rfl
  have F_least_multiple := fun_mk (st := s_least_multiple) l_least_multiple c_least_multiple k_least_multiple
  have b_least_multiple := F_least_multiple.binds (ps := ["numbers"]) fun _ _ _ _ _ _ us hl => match us, hl with | [_], _ => rfl
  have F_bezout := fun_mk (st := s_bezout) l_bezout c_bezout k_bezout
  have b_bezout := F_bezout.binds (ps := ["one", "other"]) fun _ _ _ _ _ _ us hl => match us, hl with | [_, _], _ => rfl
  have F_inverse := fun_mk (st := s_inverse) l_inverse c_inverse k_inverse
  have b_inverse := F_inverse.binds (ps := ["number", "modulus"]) fun _ _ _ _ _ _ us hl => match us, hl with | [_, _], _ => rfl
  have F_factors_of := fun_mk (st := s_factors_of) l_factors_of c_factors_of k_factors_of
  have b_factors_of := F_factors_of.binds (ps := ["number"]) fun _ _ _ _ _ _ us hl => match us, hl with | [_], _ => rfl
  have F_primes_in := fun_mk (st := s_primes_in) l_primes_in c_primes_in k_primes_in
  have b_primes_in := F_primes_in.binds (ps := ["number"]) fun _ _ _ _ _ _ us hl => match us, hl with | [_], _ => rfl
  have F_is_prime := fun_mk (st := s_is_prime) l_is_prime c_is_prime k_is_prime
  have b_is_prime := F_is_prime.binds (ps := ["value"]) fun _ _ _ _ _ _ us hl => match us, hl with | [_], _ => rfl
  have F_power_in := fun_mk (st := s_power_in) l_power_in c_power_in k_power_in
  have b_power_in := F_power_in.binds (ps := ["number", "prime"]) fun _ _ _ _ _ _ us hl => match us, hl with | [_, _], _ => rfl
  have F_valuation := fun_mk (st := s_valuation) l_valuation c_valuation k_valuation
  have b_valuation := F_valuation.binds (ps := ["number", "prime"]) fun _ _ _ _ _ _ us hl => match us, hl with | [_, _], _ => rfl
  have F_law_box := fun_mk (st := s_law_box) l_law_box c_law_box k_law_box
  have b_law_box := F_law_box.binds (ps := ["great"]) fun _ _ _ _ _ _ us hl => match us, hl with | [_], _ => rfl
  have F_law_take := fun_mk (st := s_law_take) l_law_take c_law_take k_law_take
  have b_law_take := F_law_take.binds (ps := ["box", "many"]) fun _ _ _ _ _ _ us hl => match us, hl with | [_, _], _ => rfl
  have F_law_cell := fun_mk (st := s_law_cell) l_law_cell c_law_cell k_law_cell
  have b_law_cell := F_law_cell.binds (ps := ["script", "k"]) fun _ _ _ _ _ _ us hl => match us, hl with | [_, _], _ => rfl
  have F_law_common := fun_mk (st := s_law_common) l_law_common c_law_common k_law_common
  have b_law_common := F_law_common.binds (ps := ["a", "b"]) fun _ _ _ _ _ _ us hl => match us, hl with | [_, _], _ => rfl
  have F_law_all_common := fun_mk (st := s_law_all_common) l_law_all_common c_law_all_common k_law_all_common
  have b_law_all_common := F_law_all_common.binds (ps := ["numbers"]) fun _ _ _ _ _ _ us hl => match us, hl with | [_], _ => rfl
  have F_law_same := fun_mk (st := s_law_same) l_law_same c_law_same k_law_same
  have b_law_same := F_law_same.binds (ps := ["told", "due"]) fun _ _ _ _ _ _ us hl => match us, hl with | [_, _], _ => rfl
  have F_law_integer := fun_mk (st := s_law_integer) l_law_integer c_law_integer k_law_integer
  have b_law_integer := F_law_integer.binds (ps := ["box"]) fun _ _ _ _ _ _ us hl => match us, hl with | [_], _ => rfl
  have F_law_modulus := fun_mk (st := s_law_modulus) l_law_modulus c_law_modulus k_law_modulus
  have b_law_modulus := F_law_modulus.binds (ps := ["box"]) fun _ _ _ _ _ _ us hl => match us, hl with | [_], _ => rfl
  have F_law_left := fun_mk (st := s_law_left) l_law_left c_law_left k_law_left
  have b_law_left := F_law_left.binds (ps := ["number", "modulus"]) fun _ _ _ _ _ _ us hl => match us, hl with | [_, _], _ => rfl
  have F_law_still := fun_mk (st := s_law_still) l_law_still c_law_still k_law_still
  have b_law_still := F_law_still.binds (ps := ["told", "due"]) fun _ _ _ _ _ _ us hl => match us, hl with | [_, _], _ => rfl
  have F_law_call := fun_mk (st := s_law_call) l_law_call c_law_call k_law_call
  have b_law_call := F_law_call.binds (ps := ["which", "a", "named"]) fun _ _ _ _ _ _ us hl => match us, hl with | [_, _, _], _ => rfl
  have F_law_multiple := fun_mk (st := s_law_multiple) l_law_multiple c_law_multiple k_law_multiple
  have b_law_multiple := F_law_multiple.binds (ps := ["numbers"]) fun _ _ _ _ _ _ us hl => match us, hl with | [_], _ => rfl
  have F_law_numbers_right := fun_mk (st := s_law_numbers_right) l_law_numbers_right c_law_numbers_right k_law_numbers_right
  have b_law_numbers_right := F_law_numbers_right.binds (ps := ["box", "named"]) fun _ _ _ _ _ _ us hl => match us, hl with | [_, _], _ => rfl
  have F_law_lists_right := fun_mk (st := s_law_lists_right) l_law_lists_right c_law_lists_right k_law_lists_right
  have b_law_lists_right := F_law_lists_right.binds (ps := ["box", "named"]) fun _ _ _ _ _ _ us hl => match us, hl with | [_, _], _ => rfl
  have F_law_primes_right := fun_mk (st := s_law_primes_right) l_law_primes_right c_law_primes_right k_law_primes_right
  have b_law_primes_right := F_law_primes_right.binds (ps := ["box", "named"]) fun _ _ _ _ _ _ us hl => match us, hl with | [_, _], _ => rfl
  have F_law_refused_right := fun_mk (st := s_law_refused_right) l_law_refused_right c_law_refused_right k_law_refused_right
  have b_law_refused_right := F_law_refused_right.binds (ps := ["box", "named"]) fun _ _ _ _ _ _ us hl => match us, hl with | [_, _], _ => rfl
  have F_law_scene_right := fun_mk (st := s_law_scene_right) l_law_scene_right c_law_scene_right k_law_scene_right
  have b_law_scene_right := F_law_scene_right.binds (ps := ["box", "named"]) fun _ _ _ _ _ _ us hl => match us, hl with | [_, _], _ => rfl
  have F_law := fun_mk (st := s_law) l_law c_law k_law
  have b_law := F_law.binds (ps := ["script"]) fun _ _ _ _ _ _ us hl => match us, hl with | [_], _ => rfl
  have B_valuation := F_valuation.kbR (ps := ["number", "prime"]) (ks := ["prime", "number"]) fun _ _ _ _ _ _ us hl => match us, hl with | [_, _], _ => rfl
  have B_is_prime := F_is_prime.kb (ps := ["value"]) (ks := ["value"]) fun _ _ _ _ _ _ us hl => match us, hl with | [_], _ => rfl
  have B_rest := F_rest.kbR (ps := ["number", "modulus"]) (ks := ["modulus", "number"]) fun _ _ _ _ _ _ us hl => match us, hl with | [_, _], _ => rfl
  have B_same := F_same.kbR (ps := ["one", "other", "modulus"]) (ks := ["modulus", "other", "one"]) fun _ _ _ _ _ _ us hl => match us, hl with | [_, _, _], _ => rfl
  have B_common := F_common.kb (ps := ["numbers"]) (ks := ["numbers"]) fun _ _ _ _ _ _ us hl => match us, hl with | [_], _ => rfl
  have B_least_multiple := F_least_multiple.kb (ps := ["numbers"]) (ks := ["numbers"]) fun _ _ _ _ _ _ us hl => match us, hl with | [_], _ => rfl
  have B_bezout := F_bezout.kbR (ps := ["one", "other"]) (ks := ["other", "one"]) fun _ _ _ _ _ _ us hl => match us, hl with | [_, _], _ => rfl
  have B_inverse := F_inverse.kbR (ps := ["number", "modulus"]) (ks := ["modulus", "number"]) fun _ _ _ _ _ _ us hl => match us, hl with | [_, _], _ => rfl
  have B_primes_in := F_primes_in.kb (ps := ["number"]) (ks := ["number"]) fun _ _ _ _ _ _ us hl => match us, hl with | [_], _ => rfl
  let T : Tx P K mg := {
    a_is_whole := f_is_whole, f_is_whole := _, F_is_whole := F_is_whole, D_is_whole := ⟨PySem.W.mg_of X G a_is_whole, k_is_whole, b_is_whole⟩,
    a_is_between := f_is_between, f_is_between := _, F_is_between := F_is_between, D_is_between := ⟨PySem.W.mg_of X G a_is_between, k_is_between, b_is_between⟩,
    a_is_list := f_is_list, f_is_list := _, F_is_list := F_is_list, D_is_list := ⟨PySem.W.mg_of X G a_is_list, k_is_list, b_is_list⟩,
    a_check_number := f_check_number, f_check_number := _, F_check_number := F_check_number, D_check_number := ⟨PySem.W.mg_of X G a_check_number, k_check_number, b_check_number⟩,
    a_check_modulus := f_check_modulus, f_check_modulus := _, F_check_modulus := F_check_modulus, D_check_modulus := ⟨PySem.W.mg_of X G a_check_modulus, k_check_modulus, b_check_modulus⟩,
    a_wrapped := f_wrapped, f_wrapped := _, F_wrapped := F_wrapped, D_wrapped := ⟨PySem.W.mg_of X G a_wrapped, k_wrapped, b_wrapped⟩,
    a_divides := f_divides, f_divides := _, F_divides := F_divides, D_divides := ⟨PySem.W.mg_of X G a_divides, k_divides, b_divides⟩,
    a_common_of := f_common_of, f_common_of := _, F_common_of := F_common_of, D_common_of := ⟨PySem.W.mg_of X G a_common_of, k_common_of, b_common_of⟩,
    a_shared := f_shared, f_shared := _, F_shared := F_shared, D_shared := ⟨PySem.W.mg_of X G a_shared, k_shared, b_shared⟩,
    a_inverse_in := f_inverse_in, f_inverse_in := _, F_inverse_in := F_inverse_in, D_inverse_in := ⟨PySem.W.mg_of X G a_inverse_in, k_inverse_in, b_inverse_in⟩,
    a_rest := f_rest, f_rest := _, F_rest := F_rest, D_rest := ⟨PySem.W.mg_of X G a_rest, k_rest, b_rest⟩,
    a_same := f_same, f_same := _, F_same := F_same, D_same := ⟨PySem.W.mg_of X G a_same, k_same, b_same⟩,
    a_check_numbers := f_check_numbers, f_check_numbers := _, F_check_numbers := F_check_numbers, D_check_numbers := ⟨PySem.W.mg_of X G a_check_numbers, k_check_numbers, b_check_numbers⟩,
    a_common := f_common, f_common := _, F_common := F_common, D_common := ⟨PySem.W.mg_of X G a_common, k_common, b_common⟩,
    a_least_multiple := f_least_multiple, f_least_multiple := _, F_least_multiple := F_least_multiple, D_least_multiple := ⟨PySem.W.mg_of X G a_least_multiple, k_least_multiple, b_least_multiple⟩,
    a_bezout := f_bezout, f_bezout := _, F_bezout := F_bezout, D_bezout := ⟨PySem.W.mg_of X G a_bezout, k_bezout, b_bezout⟩,
    a_inverse := f_inverse, f_inverse := _, F_inverse := F_inverse, D_inverse := ⟨PySem.W.mg_of X G a_inverse, k_inverse, b_inverse⟩,
    a_factors_of := f_factors_of, f_factors_of := _, F_factors_of := F_factors_of, D_factors_of := ⟨PySem.W.mg_of X G a_factors_of, k_factors_of, b_factors_of⟩,
    a_primes_in := f_primes_in, f_primes_in := _, F_primes_in := F_primes_in, D_primes_in := ⟨PySem.W.mg_of X G a_primes_in, k_primes_in, b_primes_in⟩,
    a_is_prime := f_is_prime, f_is_prime := _, F_is_prime := F_is_prime, D_is_prime := ⟨PySem.W.mg_of X G a_is_prime, k_is_prime, b_is_prime⟩,
    a_power_in := f_power_in, f_power_in := _, F_power_in := F_power_in, D_power_in := ⟨PySem.W.mg_of X G a_power_in, k_power_in, b_power_in⟩,
    a_valuation := f_valuation, f_valuation := _, F_valuation := F_valuation, D_valuation := ⟨PySem.W.mg_of X G a_valuation, k_valuation, b_valuation⟩,
    a_law_box := f_law_box, f_law_box := _, F_law_box := F_law_box, D_law_box := ⟨PySem.W.mg_of X G a_law_box, k_law_box, b_law_box⟩,
    a_law_take := f_law_take, f_law_take := _, F_law_take := F_law_take, D_law_take := ⟨PySem.W.mg_of X G a_law_take, k_law_take, b_law_take⟩,
    a_law_cell := f_law_cell, f_law_cell := _, F_law_cell := F_law_cell, D_law_cell := ⟨PySem.W.mg_of X G a_law_cell, k_law_cell, b_law_cell⟩,
    a_law_common := f_law_common, f_law_common := _, F_law_common := F_law_common, D_law_common := ⟨PySem.W.mg_of X G a_law_common, k_law_common, b_law_common⟩,
    a_law_all_common := f_law_all_common, f_law_all_common := _, F_law_all_common := F_law_all_common, D_law_all_common := ⟨PySem.W.mg_of X G a_law_all_common, k_law_all_common, b_law_all_common⟩,
    a_law_same := f_law_same, f_law_same := _, F_law_same := F_law_same, D_law_same := ⟨PySem.W.mg_of X G a_law_same, k_law_same, b_law_same⟩,
    a_law_integer := f_law_integer, f_law_integer := _, F_law_integer := F_law_integer, D_law_integer := ⟨PySem.W.mg_of X G a_law_integer, k_law_integer, b_law_integer⟩,
    a_law_modulus := f_law_modulus, f_law_modulus := _, F_law_modulus := F_law_modulus, D_law_modulus := ⟨PySem.W.mg_of X G a_law_modulus, k_law_modulus, b_law_modulus⟩,
    a_law_left := f_law_left, f_law_left := _, F_law_left := F_law_left, D_law_left := ⟨PySem.W.mg_of X G a_law_left, k_law_left, b_law_left⟩,
    a_law_still := f_law_still, f_law_still := _, F_law_still := F_law_still, D_law_still := ⟨PySem.W.mg_of X G a_law_still, k_law_still, b_law_still⟩,
    a_law_call := f_law_call, f_law_call := _, F_law_call := F_law_call, D_law_call := ⟨PySem.W.mg_of X G a_law_call, k_law_call, b_law_call⟩,
    a_law_multiple := f_law_multiple, f_law_multiple := _, F_law_multiple := F_law_multiple, D_law_multiple := ⟨PySem.W.mg_of X G a_law_multiple, k_law_multiple, b_law_multiple⟩,
    a_law_numbers_right := f_law_numbers_right, f_law_numbers_right := _, F_law_numbers_right := F_law_numbers_right, D_law_numbers_right := ⟨PySem.W.mg_of X G a_law_numbers_right, k_law_numbers_right, b_law_numbers_right⟩,
    a_law_lists_right := f_law_lists_right, f_law_lists_right := _, F_law_lists_right := F_law_lists_right, D_law_lists_right := ⟨PySem.W.mg_of X G a_law_lists_right, k_law_lists_right, b_law_lists_right⟩,
    a_law_primes_right := f_law_primes_right, f_law_primes_right := _, F_law_primes_right := F_law_primes_right, D_law_primes_right := ⟨PySem.W.mg_of X G a_law_primes_right, k_law_primes_right, b_law_primes_right⟩,
    a_law_refused_right := f_law_refused_right, f_law_refused_right := _, F_law_refused_right := F_law_refused_right, D_law_refused_right := ⟨PySem.W.mg_of X G a_law_refused_right, k_law_refused_right, b_law_refused_right⟩,
    a_law_scene_right := f_law_scene_right, f_law_scene_right := _, F_law_scene_right := F_law_scene_right, D_law_scene_right := ⟨PySem.W.mg_of X G a_law_scene_right, k_law_scene_right, b_law_scene_right⟩,
    a_law := fa, f_law := _, F_law := F_law, D_law := ⟨PySem.W.mg_of X G a_law, k_law, b_law⟩,
    m_isinstance := PySem.W.mg_none_of X G z_isinstance,
    m_int := PySem.W.mg_none_of X G z_int,
    m_bool := PySem.W.mg_none_of X G z_bool,
    m_str := PySem.W.mg_none_of X G z_str,
    m_list := PySem.W.mg_none_of X G z_list,
    m_tuple := PySem.W.mg_none_of X G z_tuple,
    m_dict := PySem.W.mg_none_of X G z_dict,
    m_len := PySem.W.mg_none_of X G z_len,
    m_all := PySem.W.mg_none_of X G z_all,
    m_sum := PySem.W.mg_none_of X G z_sum,
    m_zip := PySem.W.mg_none_of X G z_zip,
    m_range := PySem.W.mg_none_of X G z_range,
    m_abs := PySem.W.mg_none_of X G z_abs,
    m_max := PySem.W.mg_none_of X G z_max,
    m_min := PySem.W.mg_none_of X G z_min,
    m_sorted := PySem.W.mg_none_of X G z_sorted,
    m_gcd := PySem.W.mg_of X G z_gcd,
    g_MOST_TRIED := ⟨_, PySem.W.mg_of X G g_MOST_TRIED⟩,
    B_valuation := B_valuation,
    B_is_prime := B_is_prime,
    B_rest := B_rest,
    B_same := B_same,
    B_common := B_common,
    B_least_multiple := B_least_multiple,
    B_bezout := B_bezout,
    B_inverse := B_inverse,
    B_primes_in := B_primes_in,
    aW := D, fW := fI, base := ⟨⟨_, _, Td, _, _, _, _, cda, cc, _, _, _, _, _, _, _, _, _, _, _, _, _, _, _, _, _, _, _, vs, _, _, file, tf, _, _, nT, _, lI, cI, lcd, hvs, hfile, lcc, lT, hline⟩, ⟨_, by unfold PySem.W.clsIn; rw [xW] <;> rfl⟩, PySem.W.mg_none_of X G mS, top_, any_⟩,
    a_InvalidNumber := C_InvalidNumber, c_InvalidNumber := ⟨PySem.W.mg_of X G a_InvalidNumber, ⟨_, _, _, _, _, _, _, _, _, _, _, _, _, _, x_InvalidNumber⟩, sa_InvalidNumber, nn_InvalidNumber, ii_InvalidNumber, tI, kc_InvalidNumber, se_InvalidNumber, sv_InvalidNumber, ty_InvalidNumber, ne_InvalidNumber⟩, x_InvalidNumber := ⟨ga_InvalidNumber, gg_InvalidNumber, se_InvalidNumber, hd_InvalidNumber⟩,
    a_InvalidNumbers := C_InvalidNumbers, c_InvalidNumbers := ⟨PySem.W.mg_of X G a_InvalidNumbers, ⟨_, _, _, _, _, _, _, _, _, _, _, _, _, _, x_InvalidNumbers⟩, sa_InvalidNumbers, nn_InvalidNumbers, ii_InvalidNumbers, tI, kc_InvalidNumbers, se_InvalidNumbers, sv_InvalidNumbers, ty_InvalidNumbers, ne_InvalidNumbers⟩, x_InvalidNumbers := ⟨ga_InvalidNumbers, gg_InvalidNumbers, se_InvalidNumbers, hd_InvalidNumbers⟩,
    a_InvalidModulus := C_InvalidModulus, c_InvalidModulus := ⟨PySem.W.mg_of X G a_InvalidModulus, ⟨_, _, _, _, _, _, _, _, _, _, _, _, _, _, x_InvalidModulus⟩, sa_InvalidModulus, nn_InvalidModulus, ii_InvalidModulus, tI, kc_InvalidModulus, se_InvalidModulus, sv_InvalidModulus, ty_InvalidModulus, ne_InvalidModulus⟩, x_InvalidModulus := ⟨ga_InvalidModulus, gg_InvalidModulus, se_InvalidModulus, hd_InvalidModulus⟩,
    a_InvalidPrime := C_InvalidPrime, c_InvalidPrime := ⟨PySem.W.mg_of X G a_InvalidPrime, ⟨_, _, _, _, _, _, _, _, _, _, _, _, _, _, x_InvalidPrime⟩, sa_InvalidPrime, nn_InvalidPrime, ii_InvalidPrime, tI, kc_InvalidPrime, se_InvalidPrime, sv_InvalidPrime, ty_InvalidPrime, ne_InvalidPrime⟩, x_InvalidPrime := ⟨ga_InvalidPrime, gg_InvalidPrime, se_InvalidPrime, hd_InvalidPrime⟩,
    e_InvalidNumber_InvalidNumber := exm_of se_InvalidNumber se_InvalidNumber ic_InvalidNumber ty_InvalidNumber s_InvalidNumber_InvalidNumber,
    e_InvalidNumber_InvalidNumbers := exm_of se_InvalidNumber se_InvalidNumbers ic_InvalidNumbers ty_InvalidNumbers s_InvalidNumber_InvalidNumbers,
    e_InvalidNumber_InvalidModulus := exm_of se_InvalidNumber se_InvalidModulus ic_InvalidModulus ty_InvalidModulus s_InvalidNumber_InvalidModulus,
    e_InvalidNumber_InvalidPrime := exm_of se_InvalidNumber se_InvalidPrime ic_InvalidPrime ty_InvalidPrime s_InvalidNumber_InvalidPrime,
    e_InvalidNumbers_InvalidNumber := exm_of se_InvalidNumbers se_InvalidNumber ic_InvalidNumber ty_InvalidNumber s_InvalidNumbers_InvalidNumber,
    e_InvalidNumbers_InvalidNumbers := exm_of se_InvalidNumbers se_InvalidNumbers ic_InvalidNumbers ty_InvalidNumbers s_InvalidNumbers_InvalidNumbers,
    e_InvalidNumbers_InvalidModulus := exm_of se_InvalidNumbers se_InvalidModulus ic_InvalidModulus ty_InvalidModulus s_InvalidNumbers_InvalidModulus,
    e_InvalidNumbers_InvalidPrime := exm_of se_InvalidNumbers se_InvalidPrime ic_InvalidPrime ty_InvalidPrime s_InvalidNumbers_InvalidPrime,
    e_InvalidModulus_InvalidNumber := exm_of se_InvalidModulus se_InvalidNumber ic_InvalidNumber ty_InvalidNumber s_InvalidModulus_InvalidNumber,
    e_InvalidModulus_InvalidNumbers := exm_of se_InvalidModulus se_InvalidNumbers ic_InvalidNumbers ty_InvalidNumbers s_InvalidModulus_InvalidNumbers,
    e_InvalidModulus_InvalidModulus := exm_of se_InvalidModulus se_InvalidModulus ic_InvalidModulus ty_InvalidModulus s_InvalidModulus_InvalidModulus,
    e_InvalidModulus_InvalidPrime := exm_of se_InvalidModulus se_InvalidPrime ic_InvalidPrime ty_InvalidPrime s_InvalidModulus_InvalidPrime,
    e_InvalidPrime_InvalidNumber := exm_of se_InvalidPrime se_InvalidNumber ic_InvalidNumber ty_InvalidNumber s_InvalidPrime_InvalidNumber,
    e_InvalidPrime_InvalidNumbers := exm_of se_InvalidPrime se_InvalidNumbers ic_InvalidNumbers ty_InvalidNumbers s_InvalidPrime_InvalidNumbers,
    e_InvalidPrime_InvalidModulus := exm_of se_InvalidPrime se_InvalidModulus ic_InvalidModulus ty_InvalidModulus s_InvalidPrime_InvalidModulus,
    e_InvalidPrime_InvalidPrime := exm_of se_InvalidPrime se_InvalidPrime ic_InvalidPrime ty_InvalidPrime s_InvalidPrime_InvalidPrime }
  exact ⟨PySem.W.fnOf "law" "law" (defArgs s_law) (defBody s_law) (defScope s_law) .none kV_law dc_law pm_law an_law cd_law ct_law, fun s v => .of_eq rfl, fun base _ _ => by
    have z := ok_law (w := w) (base := base) T
    exact z⟩
theorem sp_law_ok {K : PySem.W.Frag} {H : Hp} {a : Addr} {ns : List Int} (hO : Only H) (hS : SqL K H a (ns.map V.int)) : sp_law K [.ref a] H (fun v _ => v = .bl true) fun _ _ _ => False := by
  have hF : SqF K H a (ns.map V.int) := by
    rcases hS with (h | h) | h
    · rcases hO a with z | ⟨o, xs, z⟩
      · rw [z] at h; cases h
      · rw [z] at h; cases h
    · exact .inl h
    · exact .inr h
  exact ⟨fun _ => False, fun _ => False, ns, fun _ z => z, fun _ z => z.elim, fun _ z => z.elim, trivial, ⟨⟨a, rfl, hF⟩, True.intro⟩, fun v H' _ z => by cases z; rfl⟩
theorem walk {l : PySem.W.OpenLaw} {n : Nat} {q : Program} {loose : List Str} {XP : (Str → Option Value) → Heap → Prop} {YP : World → Heap → Prop} {d : DefRec} {K : Params → PySem.W.Frag} (hn : l.most = some n) (hn2 : n ≤ sizeLine) (hdf : d.params.defaults = [])
    (hY : ∀ (w : World) (h : Heap), YP w h → (K w.params).In h)
    (F : ∀ (w : World) (mg : Str → Option Value) (fa : Addr) (h : Heap), (K w.params).In h → h.Ns mainGlobals mg → mg d.name = some (.ref fa) →
      ∃ fd : FuncData, (∀ (s : Shared) (u : Value), BindsTo s fd ⟨[u], []⟩ [("script", u)]) ∧ ∀ base : Heap, (K w.params).In base → base.Ns mainGlobals mg → FnOk l.prog w (K w.params) mg base (L2.CX l.prog w) 15 fa fd ["script"] (sp_law (K w.params))) :
    PySem.W.WalkO q loose XP YP l.row.toRowW d [] (fun f vs => PySem.call f vs) :=
  L2.walk_of (n := n) (k := 15) (x := "script") (CX := fun w => L2.CX l.prog w) (sp := fun w => sp_law (K w.params)) hn hn2 hdf ⟨rfl, by decide, by decide⟩ hY F (fun _ _ a ns hl hO hS => sp_law_ok hO hS) fun _ _ _ _ _ z => by
    obtain ⟨_, _, _, _, _, _, _, _, _, _, _, _, z⟩ := z
    exact z.elim
end
end Lk01
open PySem PySem.W PyProof.Rows
set_option maxRecDepth 100000 in
set_option maxHeartbeats 0 in
theorem PySem.Challenge.cw_everywrap_k01_rests_divisors_primes_holds : PySem.Challenge.rw_everywrap_k01_rests_divisors_primes.Holds := by
  w_on; o_law; k_head; (case hw => w_witness2)
  k_fill
  refine Lk01.walk (l := PySem.Challenge.rw_everywrap_k01_rests_divisors_primes) rfl (by decide) rfl (fun w h Y => PySem.W.kIn_of Y) ?F
  case F =>
    intro w mg fa h KX G hmg
    refine' Lk01.all_mk KX G hmg ?a_is_whole ?l_is_whole ?c_is_whole ?k_is_whole ?a_is_between ?l_is_between ?c_is_between ?k_is_between ?a_is_list ?l_is_list ?c_is_list ?k_is_list ?a_check_number ?l_check_number ?c_check_number ?k_check_number ?a_check_modulus ?l_check_modulus ?c_check_modulus ?k_check_modulus ?a_wrapped ?l_wrapped ?c_wrapped ?k_wrapped ?a_divides ?l_divides ?c_divides ?k_divides ?a_common_of ?l_common_of ?c_common_of ?k_common_of ?a_shared ?l_shared ?c_shared ?k_shared ?a_inverse_in ?l_inverse_in ?c_inverse_in ?k_inverse_in ?a_rest ?l_rest ?c_rest ?k_rest ?a_same ?l_same ?c_same ?k_same ?a_check_numbers ?l_check_numbers ?c_check_numbers ?k_check_numbers ?a_common ?l_common ?c_common ?k_common ?a_least_multiple ?l_least_multiple ?c_least_multiple ?k_least_multiple ?a_bezout ?l_bezout ?c_bezout ?k_bezout ?a_inverse ?l_inverse ?c_inverse ?k_inverse ?a_factors_of ?l_factors_of ?c_factors_of ?k_factors_of ?a_primes_in ?l_primes_in ?c_primes_in ?k_primes_in ?a_is_prime ?l_is_prime ?c_is_prime ?k_is_prime ?a_power_in ?l_power_in ?c_power_in ?k_power_in ?a_valuation ?l_valuation ?c_valuation ?k_valuation ?a_law_box ?l_law_box ?c_law_box ?k_law_box ?a_law_take ?l_law_take ?c_law_take ?k_law_take ?a_law_cell ?l_law_cell ?c_law_cell ?k_law_cell ?a_law_common ?l_law_common ?c_law_common ?k_law_common ?a_law_all_common ?l_law_all_common ?c_law_all_common ?k_law_all_common ?a_law_same ?l_law_same ?c_law_same ?k_law_same ?a_law_integer ?l_law_integer ?c_law_integer ?k_law_integer ?a_law_modulus ?l_law_modulus ?c_law_modulus ?k_law_modulus ?a_law_left ?l_law_left ?c_law_left ?k_law_left ?a_law_still ?l_law_still ?c_law_still ?k_law_still ?a_law_call ?l_law_call ?c_law_call ?k_law_call ?a_law_multiple ?l_law_multiple ?c_law_multiple ?k_law_multiple ?a_law_numbers_right ?l_law_numbers_right ?c_law_numbers_right ?k_law_numbers_right ?a_law_lists_right ?l_law_lists_right ?c_law_lists_right ?k_law_lists_right ?a_law_primes_right ?l_law_primes_right ?c_law_primes_right ?k_law_primes_right ?a_law_refused_right ?l_law_refused_right ?c_law_refused_right ?k_law_refused_right ?a_law_scene_right ?l_law_scene_right ?c_law_scene_right ?k_law_scene_right ?a_law ?l_law ?c_law ?k_law ?z_isinstance ?z_int ?z_bool ?z_str ?z_list ?z_tuple ?z_dict ?z_len ?z_all ?z_sum ?z_zip ?z_range ?z_abs ?z_max ?z_min ?z_sorted ?z_gcd ?g_MOST_TRIED ?aW ?xW ?iW ?lI ?cI ?lcd ?hvs ?hfile ?lcc ?lT ?hline ?mS ?top_ ?any_ ?a_InvalidNumber ?x_InvalidNumber ?sa_InvalidNumber ?nn_InvalidNumber ?ii_InvalidNumber ?kc_InvalidNumber ?se_InvalidNumber ?sv_InvalidNumber ?ty_InvalidNumber ?ne_InvalidNumber ?ga_InvalidNumber ?gg_InvalidNumber ?hd_InvalidNumber ?ic_InvalidNumber ?a_InvalidNumbers ?x_InvalidNumbers ?sa_InvalidNumbers ?nn_InvalidNumbers ?ii_InvalidNumbers ?kc_InvalidNumbers ?se_InvalidNumbers ?sv_InvalidNumbers ?ty_InvalidNumbers ?ne_InvalidNumbers ?ga_InvalidNumbers ?gg_InvalidNumbers ?hd_InvalidNumbers ?ic_InvalidNumbers ?a_InvalidModulus ?x_InvalidModulus ?sa_InvalidModulus ?nn_InvalidModulus ?ii_InvalidModulus ?kc_InvalidModulus ?se_InvalidModulus ?sv_InvalidModulus ?ty_InvalidModulus ?ne_InvalidModulus ?ga_InvalidModulus ?gg_InvalidModulus ?hd_InvalidModulus ?ic_InvalidModulus ?a_InvalidPrime ?x_InvalidPrime ?sa_InvalidPrime ?nn_InvalidPrime ?ii_InvalidPrime ?kc_InvalidPrime ?se_InvalidPrime ?sv_InvalidPrime ?ty_InvalidPrime ?ne_InvalidPrime ?ga_InvalidPrime ?gg_InvalidPrime ?hd_InvalidPrime ?ic_InvalidPrime ?tI ?s_InvalidNumber_InvalidNumber ?s_InvalidNumber_InvalidNumbers ?s_InvalidNumber_InvalidModulus ?s_InvalidNumber_InvalidPrime ?s_InvalidNumbers_InvalidNumber ?s_InvalidNumbers_InvalidNumbers ?s_InvalidNumbers_InvalidModulus ?s_InvalidNumbers_InvalidPrime ?s_InvalidModulus_InvalidNumber ?s_InvalidModulus_InvalidNumbers ?s_InvalidModulus_InvalidModulus ?s_InvalidModulus_InvalidPrime ?s_InvalidPrime_InvalidNumber ?s_InvalidPrime_InvalidNumbers ?s_InvalidPrime_InvalidModulus ?s_InvalidPrime_InvalidPrime
    (case a_is_whole => k_is)
    (case l_is_whole => k_is)
    (case c_is_whole => k_is)
    (case k_is_whole => k_is)
    (case a_is_between => k_is)
    (case l_is_between => k_is)
    (case c_is_between => k_is)
    (case k_is_between => k_is)
    (case a_is_list => k_is)
    (case l_is_list => k_is)
    (case c_is_list => k_is)
    (case k_is_list => k_is)
    (case a_check_number => k_is)
    (case l_check_number => k_is)
    (case c_check_number => k_is)
    (case k_check_number => k_is)
    (case a_check_modulus => k_is)
    (case l_check_modulus => k_is)
    (case c_check_modulus => k_is)
    (case k_check_modulus => k_is)
    (case a_wrapped => k_is)
    (case l_wrapped => k_is)
    (case c_wrapped => k_is)
    (case k_wrapped => k_is)
    (case a_divides => k_is)
    (case l_divides => k_is)
    (case c_divides => k_is)
    (case k_divides => k_is)
    (case a_common_of => k_is)
    (case l_common_of => k_is)
    (case c_common_of => k_is)
    (case k_common_of => k_is)
    (case a_shared => k_is)
    (case l_shared => k_is)
    (case c_shared => k_is)
    (case k_shared => k_is)
    (case a_inverse_in => k_is)
    (case l_inverse_in => k_is)
    (case c_inverse_in => k_is)
    (case k_inverse_in => k_is)
    (case a_rest => k_is)
    (case l_rest => k_is)
    (case c_rest => k_is)
    (case k_rest => k_is)
    (case a_same => k_is)
    (case l_same => k_is)
    (case c_same => k_is)
    (case k_same => k_is)
    (case a_check_numbers => k_is)
    (case l_check_numbers => k_is)
    (case c_check_numbers => k_is)
    (case k_check_numbers => k_is)
    (case a_common => k_is)
    (case l_common => k_is)
    (case c_common => k_is)
    (case k_common => k_is)
    (case a_least_multiple => k_is)
    (case l_least_multiple => k_is)
    (case c_least_multiple => k_is)
    (case k_least_multiple => k_is)
    (case a_bezout => k_is)
    (case l_bezout => k_is)
    (case c_bezout => k_is)
    (case k_bezout => k_is)
    (case a_inverse => k_is)
    (case l_inverse => k_is)
    (case c_inverse => k_is)
    (case k_inverse => k_is)
    (case a_factors_of => k_is)
    (case l_factors_of => k_is)
    (case c_factors_of => k_is)
    (case k_factors_of => k_is)
    (case a_primes_in => k_is)
    (case l_primes_in => k_is)
    (case c_primes_in => k_is)
    (case k_primes_in => k_is)
    (case a_is_prime => k_is)
    (case l_is_prime => k_is)
    (case c_is_prime => k_is)
    (case k_is_prime => k_is)
    (case a_power_in => k_is)
    (case l_power_in => k_is)
    (case c_power_in => k_is)
    (case k_power_in => k_is)
    (case a_valuation => k_is)
    (case l_valuation => k_is)
    (case c_valuation => k_is)
    (case k_valuation => k_is)
    (case a_law_box => k_is)
    (case l_law_box => k_is)
    (case c_law_box => k_is)
    (case k_law_box => k_is)
    (case a_law_take => k_is)
    (case l_law_take => k_is)
    (case c_law_take => k_is)
    (case k_law_take => k_is)
    (case a_law_cell => k_is)
    (case l_law_cell => k_is)
    (case c_law_cell => k_is)
    (case k_law_cell => k_is)
    (case a_law_common => k_is)
    (case l_law_common => k_is)
    (case c_law_common => k_is)
    (case k_law_common => k_is)
    (case a_law_all_common => k_is)
    (case l_law_all_common => k_is)
    (case c_law_all_common => k_is)
    (case k_law_all_common => k_is)
    (case a_law_same => k_is)
    (case l_law_same => k_is)
    (case c_law_same => k_is)
    (case k_law_same => k_is)
    (case a_law_integer => k_is)
    (case l_law_integer => k_is)
    (case c_law_integer => k_is)
    (case k_law_integer => k_is)
    (case a_law_modulus => k_is)
    (case l_law_modulus => k_is)
    (case c_law_modulus => k_is)
    (case k_law_modulus => k_is)
    (case a_law_left => k_is)
    (case l_law_left => k_is)
    (case c_law_left => k_is)
    (case k_law_left => k_is)
    (case a_law_still => k_is)
    (case l_law_still => k_is)
    (case c_law_still => k_is)
    (case k_law_still => k_is)
    (case a_law_call => k_is)
    (case l_law_call => k_is)
    (case c_law_call => k_is)
    (case k_law_call => k_is)
    (case a_law_multiple => k_is)
    (case l_law_multiple => k_is)
    (case c_law_multiple => k_is)
    (case k_law_multiple => k_is)
    (case a_law_numbers_right => k_is)
    (case l_law_numbers_right => k_is)
    (case c_law_numbers_right => k_is)
    (case k_law_numbers_right => k_is)
    (case a_law_lists_right => k_is)
    (case l_law_lists_right => k_is)
    (case c_law_lists_right => k_is)
    (case k_law_lists_right => k_is)
    (case a_law_primes_right => k_is)
    (case l_law_primes_right => k_is)
    (case c_law_primes_right => k_is)
    (case k_law_primes_right => k_is)
    (case a_law_refused_right => k_is)
    (case l_law_refused_right => k_is)
    (case c_law_refused_right => k_is)
    (case k_law_refused_right => k_is)
    (case a_law_scene_right => k_is)
    (case l_law_scene_right => k_is)
    (case c_law_scene_right => k_is)
    (case k_law_scene_right => k_is)
    (case a_law => k_is)
    (case l_law => k_is)
    (case c_law => k_is)
    (case k_law => k_is)
    (case z_isinstance => k_is)
    (case z_int => k_is)
    (case z_bool => k_is)
    (case z_str => k_is)
    (case z_list => k_is)
    (case z_tuple => k_is)
    (case z_dict => k_is)
    (case z_len => k_is)
    (case z_all => k_is)
    (case z_sum => k_is)
    (case z_zip => k_is)
    (case z_range => k_is)
    (case z_abs => k_is)
    (case z_max => k_is)
    (case z_min => k_is)
    (case z_sorted => k_is)
    (case z_gcd => k_is)
    (case g_MOST_TRIED => k_is)
    (case aW => k_is)
    (case xW => k_is)
    (case iW => k_is)
    (case lI => k_is)
    (case cI => k_is)
    (case lcd => k_is)
    (case hvs => rfl)
    (case hfile => decide +kernel)
    (case lcc => k_is)
    (case lT => k_is)
    (case hline => rfl)
    (case mS => k_is)
    (case top_ => decide +kernel)
    (case any_ => k_is)
    (case a_InvalidNumber => k_is)
    (case x_InvalidNumber => k_is)
    (case sa_InvalidNumber => k_is)
    (case nn_InvalidNumber => k_is)
    (case ii_InvalidNumber => k_is)
    (case kc_InvalidNumber => k_is)
    (case se_InvalidNumber => k_is)
    (case sv_InvalidNumber => k_is)
    (case ty_InvalidNumber => k_is)
    (case ne_InvalidNumber => first | decide | k_is)
    (case ga_InvalidNumber => k_is)
    (case gg_InvalidNumber => k_is)
    (case hd_InvalidNumber => k_is)
    (case ic_InvalidNumber => k_is)
    (case a_InvalidNumbers => k_is)
    (case x_InvalidNumbers => k_is)
    (case sa_InvalidNumbers => k_is)
    (case nn_InvalidNumbers => k_is)
    (case ii_InvalidNumbers => k_is)
    (case kc_InvalidNumbers => k_is)
    (case se_InvalidNumbers => k_is)
    (case sv_InvalidNumbers => k_is)
    (case ty_InvalidNumbers => k_is)
    (case ne_InvalidNumbers => first | decide | k_is)
    (case ga_InvalidNumbers => k_is)
    (case gg_InvalidNumbers => k_is)
    (case hd_InvalidNumbers => k_is)
    (case ic_InvalidNumbers => k_is)
    (case a_InvalidModulus => k_is)
    (case x_InvalidModulus => k_is)
    (case sa_InvalidModulus => k_is)
    (case nn_InvalidModulus => k_is)
    (case ii_InvalidModulus => k_is)
    (case kc_InvalidModulus => k_is)
    (case se_InvalidModulus => k_is)
    (case sv_InvalidModulus => k_is)
    (case ty_InvalidModulus => k_is)
    (case ne_InvalidModulus => first | decide | k_is)
    (case ga_InvalidModulus => k_is)
    (case gg_InvalidModulus => k_is)
    (case hd_InvalidModulus => k_is)
    (case ic_InvalidModulus => k_is)
    (case a_InvalidPrime => k_is)
    (case x_InvalidPrime => k_is)
    (case sa_InvalidPrime => k_is)
    (case nn_InvalidPrime => k_is)
    (case ii_InvalidPrime => k_is)
    (case kc_InvalidPrime => k_is)
    (case se_InvalidPrime => k_is)
    (case sv_InvalidPrime => k_is)
    (case ty_InvalidPrime => k_is)
    (case ne_InvalidPrime => first | decide | k_is)
    (case ga_InvalidPrime => k_is)
    (case gg_InvalidPrime => k_is)
    (case hd_InvalidPrime => k_is)
    (case ic_InvalidPrime => k_is)
    (case tI => k_is)
    (case s_InvalidNumber_InvalidNumber => first | rfl | k_is)
    (case s_InvalidNumber_InvalidNumbers => first | rfl | k_is)
    (case s_InvalidNumber_InvalidModulus => first | rfl | k_is)
    (case s_InvalidNumber_InvalidPrime => first | rfl | k_is)
    (case s_InvalidNumbers_InvalidNumber => first | rfl | k_is)
    (case s_InvalidNumbers_InvalidNumbers => first | rfl | k_is)
    (case s_InvalidNumbers_InvalidModulus => first | rfl | k_is)
    (case s_InvalidNumbers_InvalidPrime => first | rfl | k_is)
    (case s_InvalidModulus_InvalidNumber => first | rfl | k_is)
    (case s_InvalidModulus_InvalidNumbers => first | rfl | k_is)
    (case s_InvalidModulus_InvalidModulus => first | rfl | k_is)
    (case s_InvalidModulus_InvalidPrime => first | rfl | k_is)
    (case s_InvalidPrime_InvalidNumber => first | rfl | k_is)
    (case s_InvalidPrime_InvalidNumbers => first | rfl | k_is)
    (case s_InvalidPrime_InvalidModulus => first | rfl | k_is)
    (case s_InvalidPrime_InvalidPrime => first | rfl | k_is)
